import PyProof.Rows.All
import Wide.All
import OpenK.AllK
import Wide.FinOn
import KE.KLam
import PySem.Challenge.RW_nn0058_01
open PySem PySem.W PySem.Calls PyProof.Rows
set_option Elab.async false
set_option maxRecDepth 100000
set_option linter.all false
set_option genSizeOf false
set_option genInjectivity false
set_option bootstrap.genMatcherCode false
set_option linter.unusedVariables false
set_option linter.unusedSimpArgs false
noncomputable section
namespace Mine.Internal
noncomputable abbrev Led := List (Addr × Obj)
noncomputable abbrev tupO (vs : List Value) (c : Nat) : Obj := { cls := .type "tuple",data := .seq vs.toArray c }
noncomputable abbrev lstO (vs : List Value) (c : Nat) : Obj := { cls := .type "list",data := .seq vs.toArray c }
inductive AV where
  | none | bool (b : Bool) | int (n : Int) | str (x : Str) | bytes (ns : List Int)
  | tup (xs : List AV) | lst (xs : List AV) | inst (C : Nat) (fs : List AV)
  | mu (i : Nat) | val (v : Value) | rng (lo hi st : Int) | ext (xs : List AV) | fn (j : Nat) (caps : List AV)
  deriving Inhabited
noncomputable abbrev MH := List (List AV)
noncomputable abbrev rangeO (lo hi st : Int) (t u v : Tok) : Obj := { cls := .type "range",data := .fields #[.int lo t,.int hi u,.int st v] }
noncomputable def fieldsOf : Nat → List Str
  | 196 => ["name","kind","number","size"]
  | 587 => ["iset","regs","xmm","flags","memory","rip","begin","segments","is_halted"]
  | _ => []
inductive BF where | abs | int | len | str | range | sum | bytes
inductive SM where | split | lower | upper | find | join | append | extend | index
set_option genCtorIdx false in
inductive IE where
  | c (v : AV) | loc (k : Nat) | g (i : Nat)
  | bin (op : Operator) (l r : IE) | cmp (l : IE) (op : CmpOp) (r : IE) | chain (l : IE) (o1 : CmpOp) (m : IE) (o2 : CmpOp) (r : IE)
  | not (e : IE) | and (es : List IE) | or (es : List IE) | ife (t a b : IE)
  | call (f : Nat) (es : List IE) | bcall (b : BF) (es : List IE) | callv (k : Nat)
  | meth (f : Nat) (o : IE) (es : List IE) | smeth (s : SM) (o : IE) (es : List IE)
  | attr (o : IE) (C k : Nat)
  | idx (o i : IE) | slice (o : IE) (lo hi : Option IE)
  | tup (es : List IE) | lst (mu : Bool) (es : List IE)
  | comp (mu : Bool) (elt : IE) (x : Str) (fr : List Nat) (iter : IE) (cond : Option IE)
  | lam (j : Nat) (fr : List Nat)
  deriving Inhabited
noncomputable abbrev Ks := List (Nat × Bool)
set_option genCtorIdx false in
inductive IS where
  | asg (k : Nat) (cell : Bool) (e : IE) | asgT (ks : Ks) (swap : Bool) (e : IE) | asgI (o i e : IE)
  | iff (t : IE) (a b : List IS) | forS (ks : Ks) (one : Bool) (it : IE) (b : List IS) | forE (ki kv : Nat) (it : IE) (b : List IS) | whileS (t : IE) (b : List IS)
  | ret (e : IE) | ex (e : IE) | cont | raise (C : Nat) (e : IE) | tryS (e : IE) (C : Nat) (v : AV)
  deriving Inhabited
noncomputable abbrev Loc := List (Option AV)
noncomputable def gtab : List (Str × AV) := [("FIGURES",.str "0123456789abcdef"),("NAMES_8",.str "al cl dl bl spl bpl sil dil"),("NAMES_16",.str "ax cx dx bx sp bp si di"),("NAMES_32",.str "eax ecx edx ebx esp ebp esi edi"),
  ("NAMES_64",.str "rax rcx rdx rbx rsp rbp rsi rdi"),("HIGH_NAMES",.str "ah ch dh bh"),("LATE_NUMBERS",.str "8 9 10 11 12 13 14 15"),("XMM_NUMBERS",.str "0 1 2 3 4 5 6 7 8 9 10 11 12 13 14 15"),("SEGMENT_NAMES",.str "es cs ss ds fs gs")]
noncomputable def lams : List (List Str × IE) := [(["found"],.call 284 [.loc 0]),([],.call 221 [.c (.int 16),.c (.int 64)]),([],.call 221 [.c (.int (-1)),.c (.int 8)]),([],.call 221 [.c (.int 3),.c (.int 24)]),([],.call 228 [.c (.int 3)]),([],.call 228 [.c (.int 8)]),([],.call 242 [.c (.int 16)]),([],.call 256 [.c (.str "cs")]),(["row"],.call 256 [.idx (.loc 0) (.c (.int 0))])]
structure Sc where
  slots : List Str
  names : List (Str × NameKind)
  cells : List Str
  loops : Bool := true
  tab : Option (Nat × Nat) := none
noncomputable def constIs : AV → Const → Bool
  | .none,.none => true
  | .bool a,.bool b => a == b
  | .int a,.int b => a == b
  | .str a,.str b => a == b
  | _,_ => false
noncomputable def chkL (f : IE → Expr → Bool) : List IE → List Expr → Bool
  | [],[] => true
  | a :: r,b :: t => f a b && chkL f r t
  | _,_ => false
noncomputable def chkO (f : IE → Expr → Bool) : Option IE → Option Expr → Bool
  | none,none => true
  | some a,some b => f a b
  | _,_ => false
noncomputable def notDebug (x : Str) : Bool := !(x == ("__debug__" : Str))
noncomputable def Sc.glob (sc : Sc) (x : Str) : Bool := sc.names.lookup x == some .globalImplicit && notDebug x
noncomputable def ftab : List (Str × Nat) := ([("mask",92),("wrap",99),("signed",106),("extended",113),("bit",120),("top_bit",127),("figures_of",134),("octets_text",139),("octets_of",144),("Register",196),("early_names",207),("late_ending",214),("gpr",221),("high",228),("octet_register",235),("xmm",242),("rip",249),("segment",256),("late_register",263),("find_register",270),("same_register",277),("whole",284),("part",291),("overlaps",298),("all_registers",303),("joined",481),("State",587),("_law_pen",598),("_law_draw",605),("_law_pick",612),("_law_table",617),("_law_home",624),("_law_meet",631),("_law_is_refused",638),("_law_row_right",643),("_law_names_right",648),("_law_state",655),("_law_puts_right",660),("_law_numbers_right",667),("_law_figures_right",672),("OperandError",71),("ReadError",59),("MachineError",83)] : List (String × Nat)).map fun x => (Str.ofString x.1,x.2)
noncomputable def mtab : List (Str × Nat) := [("code",165),("is_extended",172),("is_high",179),("needs_rex",186),("told",193),("get",502),("put",509)]
noncomputable def BF.name : BF → Str
  | .abs => "abs" | .int => "int" | .len => "len" | .str => "str" | .range => "range" | .sum => "sum" | .bytes => "bytes"
noncomputable def SM.name : SM → Str
  | .split => "split" | .lower => "lower" | .upper => "upper" | .find => "find" | .join => "join" | .append => "append" | .extend => "extend" | .index => "index"
noncomputable def isSlice (e : Expr) : Bool := e.ctorIdx == 26
noncomputable def notSet (e : Expr) : Bool := e.ctorIdx != 7
noncomputable def inSc (sc : Sc) (s : Scope) (x : Str) (fr : List Nat) : Sc := ⟨x :: fr.map (fun k => (sc.slots[k]?).getD ""),s.names,[],true,none⟩
noncomputable def compOk (sc : Sc) (s : Scope) (x : Str) (fr : List Nat) : Bool :=
  s.kind == .function && s.names.all (fun y => y.2 != .cell && (y.2 != .local || s.names.lookup y.1 == some .local) && (y.2 != .free || sc.cells.contains y.1)) && s.names.lookup x == some .local && notDebug x &&
  fr.all (fun k => match sc.slots[k]? with | some y => sc.cells.contains y && s.names.lookup y == some .free && notDebug y | none => false)
noncomputable def noParams : Arguments → Bool
  | ⟨a,b,c,d,e,f,g⟩ => a.isEmpty && b.isEmpty && c.isNone && d.isEmpty && e.isEmpty && f.isNone && g.isEmpty
noncomputable def lamC (f : Sc → IE → Expr → Bool) (j : Nat) (params : Arguments) (body : Expr) (s : Scope) : Bool :=
  noParams params && s.kind == .function && (!s.isCoroutine && !s.isGenerator) && s.names.all (fun y => y.2 != .cell) &&
  match lams[j]? with | some (names,ie) => names.all (fun y => s.names.lookup y == some .free && notDebug y) && f ⟨names,s.names,[],true,none⟩ ie body | none => false
noncomputable def lamFr (sc : Sc) (j : Nat) (s : Scope) (fr : List Nat) : Bool :=
  s.names.all (fun y => y.2 != .free || sc.cells.contains y.1) && match lams[j]? with | some (names,_) => (fr.map fun k => sc.slots[k]?) == names.map some && names.all (fun y => sc.cells.contains y) | none => false
noncomputable def optB {α : Type} (o : Option α) (k : α → Bool) : Bool := match o with | some a => k a | none => false
theorem optB_some {α : Type} {o : Option α} {k : α → Bool} (h : optB o k = true) : ∃ a,o = some a ∧ k a = true := by
  cases o with
  | none => cases h
  | some a => exact ⟨a,rfl,h⟩
theorem cps {α : Type} {C : α → Prop} {e x : α} (h : e = x) (c : C x) : C e := h ▸ c
theorem noneX {α : Type} {v : α} {p : Prop} (h : (none : Option α) = some v) : p := nomatch h
noncomputable def AV.lstD : AV → List AV | .lst xs => xs | _ => []
theorem lst_inj {xs ys : List AV} (e : AV.lst xs = .lst ys) : xs = ys := congrArg AV.lstD e
theorem byC {p : Prop} (h : (p → False) → False) : p := Classical.byContradiction h
theorem falseX {p : Prop} (h : false = true) : p := nomatch h
theorem offE {q p : Prop} (h : q) (e : q = False) : p := (e ▸ h).elim
noncomputable def one1 {α : Type} : List α → Option α | [a] => some a | _ => none
theorem one1_eq {α : Type} {l : List α} {a : α} (h : one1 l = some a) : l = [a] := by
  rcases l with _ | ⟨b,_ | ⟨c,l⟩⟩
  · exact noneX h
  · exact congrArg (fun x => [x]) (Option.some.inj h)
  · exact noneX h
noncomputable def two2 {α : Type} : List α → Option (α × α) | [a,b] => some (a,b) | _ => none
theorem two2_eq {α : Type} {l : List α} {a : α × α} (h : two2 l = some a) : l = [a.1,a.2] := by
  rcases l with _ | ⟨b,_ | ⟨c,_ | ⟨d,l⟩⟩⟩
  · exact noneX h
  · exact noneX h
  · rw [← Option.some.inj h]
  · exact noneX h
theorem and2 {a b : Bool} (h : (a && b) = true) : a = true ∧ b = true := Bool.and_eq_true_iff.mp h
theorem and3 {a b c : Bool} (h : (a && b && c) = true) : a = true ∧ b = true ∧ c = true := ⟨(and2 (and2 h).1).1,(and2 (and2 h).1).2,(and2 h).2⟩
theorem and4 {a b c d : Bool} (h : (a && b && c && d) = true) : a = true ∧ b = true ∧ c = true ∧ d = true := ⟨(and3 (and2 h).1).1,(and3 (and2 h).1).2.1,(and3 (and2 h).1).2.2,(and2 h).2⟩
theorem not_f {a : Bool} (h : (!a) = true) : a = false := by cases a; rfl; cases h
noncomputable def conE (e : Expr) : Option Const := if h : e.ctorIdx = 19 then @Expr.Constant.elim (fun _ => Option Const) e h (fun k n p => some k) else none
theorem conE_eq {e : Expr} {z : Const} (h : conE e = some z) : ∃ n p,e = .Constant z n p := by
  by_cases hi : e.ctorIdx = 19
  · revert h
    exact @Expr.Constant.elim (fun e => conE e = some z → ∃ n p,e = .Constant z n p) e hi (fun _ _ _ h => by cases Option.some.inj h; exact ⟨_,_,rfl⟩)
  · exact noneX ((dif_neg hi).symm.trans h)
noncomputable def unE (e : Expr) : Option (UnaryOp × Expr) := if h : e.ctorIdx = 3 then @Expr.UnaryOp.elim (fun _ => Option (UnaryOp × Expr)) e h (fun op x p => some (op,x)) else none
theorem unE_eq {e : Expr} {z : UnaryOp × Expr} (h : unE e = some z) : ∃ p,e = .UnaryOp z.1 z.2 p := by
  by_cases hi : e.ctorIdx = 3
  · revert h
    exact @Expr.UnaryOp.elim (fun e => unE e = some z → ∃ p,e = .UnaryOp z.1 z.2 p) e hi (fun _ _ _ h => by cases Option.some.inj h; exact ⟨_,rfl⟩)
  · exact noneX ((dif_neg hi).symm.trans h)
noncomputable def nameE (e : Expr) : Option (Str × Pos) := if h : e.ctorIdx = 23 then @Expr.Name.elim (fun _ => Option (Str × Pos)) e h (fun x p => some (x,p)) else none
theorem nameE_eq {e : Expr} {z : Str × Pos} (h : nameE e = some z) : e = .Name z.1 z.2 := by
  by_cases hi : e.ctorIdx = 23
  · revert h
    exact @Expr.Name.elim (fun e => nameE e = some z → e = .Name z.1 z.2) e hi (fun _ _ h => by cases Option.some.inj h; exact rfl)
  · exact noneX ((dif_neg hi).symm.trans h)
noncomputable def binE (e : Expr) : Option (Expr × Operator × Expr) := if h : e.ctorIdx = 2 then @Expr.BinOp.elim (fun _ => Option (Expr × Operator × Expr)) e h (fun l op r p => some (l,op,r)) else none
theorem binE_eq {e : Expr} {z : Expr × Operator × Expr} (h : binE e = some z) : ∃ p,e = .BinOp z.1 z.2.1 z.2.2 p := by
  by_cases hi : e.ctorIdx = 2
  · revert h
    exact @Expr.BinOp.elim (fun e => binE e = some z → ∃ p,e = .BinOp z.1 z.2.1 z.2.2 p) e hi (fun _ _ _ _ h => by cases Option.some.inj h; exact ⟨_,rfl⟩)
  · exact noneX ((dif_neg hi).symm.trans h)
noncomputable def cmpE (e : Expr) : Option (Expr × List CmpOp × List Expr) := if h : e.ctorIdx = 15 then @Expr.Compare.elim (fun _ => Option (Expr × List CmpOp × List Expr)) e h (fun l op r p => some (l,op,r)) else none
theorem cmpE_eq {e : Expr} {z : Expr × List CmpOp × List Expr} (h : cmpE e = some z) : ∃ p,e = .Compare z.1 z.2.1 z.2.2 p := by
  by_cases hi : e.ctorIdx = 15
  · revert h
    exact @Expr.Compare.elim (fun e => cmpE e = some z → ∃ p,e = .Compare z.1 z.2.1 z.2.2 p) e hi (fun _ _ _ _ h => by cases Option.some.inj h; exact ⟨_,rfl⟩)
  · exact noneX ((dif_neg hi).symm.trans h)
noncomputable def boolE (e : Expr) : Option (BoolOp × List Expr) := if h : e.ctorIdx = 0 then @Expr.BoolOp.elim (fun _ => Option (BoolOp × List Expr)) e h (fun op es p => some (op,es)) else none
theorem boolE_eq {e : Expr} {z : BoolOp × List Expr} (h : boolE e = some z) : ∃ p,e = .BoolOp z.1 z.2 p := by
  by_cases hi : e.ctorIdx = 0
  · revert h
    exact @Expr.BoolOp.elim (fun e => boolE e = some z → ∃ p,e = .BoolOp z.1 z.2 p) e hi (fun _ _ _ h => by cases Option.some.inj h; exact ⟨_,rfl⟩)
  · exact noneX ((dif_neg hi).symm.trans h)
noncomputable def ifE (e : Expr) : Option (Expr × Expr × Expr) := if h : e.ctorIdx = 5 then @Expr.IfExp.elim (fun _ => Option (Expr × Expr × Expr)) e h (fun t a b p => some (t,a,b)) else none
theorem ifE_eq {e : Expr} {z : Expr × Expr × Expr} (h : ifE e = some z) : ∃ p,e = .IfExp z.1 z.2.1 z.2.2 p := by
  by_cases hi : e.ctorIdx = 5
  · revert h
    exact @Expr.IfExp.elim (fun e => ifE e = some z → ∃ p,e = .IfExp z.1 z.2.1 z.2.2 p) e hi (fun _ _ _ _ h => by cases Option.some.inj h; exact ⟨_,rfl⟩)
  · exact noneX ((dif_neg hi).symm.trans h)
noncomputable def callE (e : Expr) : Option (Expr × List Expr × List Keyword × Pos) := if h : e.ctorIdx = 16 then @Expr.Call.elim (fun _ => Option (Expr × List Expr × List Keyword × Pos)) e h (fun f as ks p => some (f,as,ks,p)) else none
theorem callE_eq {e : Expr} {z : Expr × List Expr × List Keyword × Pos} (h : callE e = some z) : e = .Call z.1 z.2.1 z.2.2.1 z.2.2.2 := by
  by_cases hi : e.ctorIdx = 16
  · revert h
    exact @Expr.Call.elim (fun e => callE e = some z → e = .Call z.1 z.2.1 z.2.2.1 z.2.2.2) e hi (fun _ _ _ _ h => by cases Option.some.inj h; exact rfl)
  · exact noneX ((dif_neg hi).symm.trans h)
noncomputable def attE (e : Expr) : Option (Expr × Str × Pos) := if h : e.ctorIdx = 20 then @Expr.Attribute.elim (fun _ => Option (Expr × Str × Pos)) e h (fun o x p => some (o,x,p)) else none
theorem attE_eq {e : Expr} {z : Expr × Str × Pos} (h : attE e = some z) : e = .Attribute z.1 z.2.1 z.2.2 := by
  by_cases hi : e.ctorIdx = 20
  · revert h
    exact @Expr.Attribute.elim (fun e => attE e = some z → e = .Attribute z.1 z.2.1 z.2.2) e hi (fun _ _ _ h => by cases Option.some.inj h; exact rfl)
  · exact noneX ((dif_neg hi).symm.trans h)
noncomputable def subE (e : Expr) : Option (Expr × Expr × Pos) := if h : e.ctorIdx = 21 then @Expr.Subscript.elim (fun _ => Option (Expr × Expr × Pos)) e h (fun o i p => some (o,i,p)) else none
theorem subE_eq {e : Expr} {z : Expr × Expr × Pos} (h : subE e = some z) : e = .Subscript z.1 z.2.1 z.2.2 := by
  by_cases hi : e.ctorIdx = 21
  · revert h
    exact @Expr.Subscript.elim (fun e => subE e = some z → e = .Subscript z.1 z.2.1 z.2.2) e hi (fun _ _ _ h => by cases Option.some.inj h; exact rfl)
  · exact noneX ((dif_neg hi).symm.trans h)
noncomputable def slcE (e : Expr) : Option (Option Expr × Option Expr × Option Expr) := if h : e.ctorIdx = 26 then @Expr.Slice.elim (fun _ => Option (Option Expr × Option Expr × Option Expr)) e h (fun a b c p => some (a,b,c)) else none
theorem slcE_eq {e : Expr} {z : Option Expr × Option Expr × Option Expr} (h : slcE e = some z) : ∃ p,e = .Slice z.1 z.2.1 z.2.2 p := by
  by_cases hi : e.ctorIdx = 26
  · revert h
    exact @Expr.Slice.elim (fun e => slcE e = some z → ∃ p,e = .Slice z.1 z.2.1 z.2.2 p) e hi (fun _ _ _ _ h => by cases Option.some.inj h; exact ⟨_,rfl⟩)
  · exact noneX ((dif_neg hi).symm.trans h)
noncomputable def tupE (e : Expr) : Option (List Expr × Nat × Pos) := if h : e.ctorIdx = 25 then @Expr.Tuple.elim (fun _ => Option (List Expr × Nat × Pos)) e h (fun es k p => some (es,k,p)) else none
theorem tupE_eq {e : Expr} {z : List Expr × Nat × Pos} (h : tupE e = some z) : e = .Tuple z.1 z.2.1 z.2.2 := by
  by_cases hi : e.ctorIdx = 25
  · revert h
    exact @Expr.Tuple.elim (fun e => tupE e = some z → e = .Tuple z.1 z.2.1 z.2.2) e hi (fun _ _ _ h => by cases Option.some.inj h; exact rfl)
  · exact noneX ((dif_neg hi).symm.trans h)
noncomputable def lstE (e : Expr) : Option (List Expr) := if h : e.ctorIdx = 24 then @Expr.List.elim (fun _ => Option (List Expr)) e h (fun es p => some es) else none
theorem lstE_eq {e : Expr} {z : List Expr} (h : lstE e = some z) : ∃ p,e = .List z p := by
  by_cases hi : e.ctorIdx = 24
  · revert h
    exact @Expr.List.elim (fun e => lstE e = some z → ∃ p,e = .List z p) e hi (fun _ _ h => by cases Option.some.inj h; exact ⟨_,rfl⟩)
  · exact noneX ((dif_neg hi).symm.trans h)
noncomputable def lcE (e : Expr) : Option (Expr × List Comprehension × Scope) := if h : e.ctorIdx = 8 then @Expr.ListComp.elim (fun _ => Option (Expr × List Comprehension × Scope)) e h (fun elt gens s p => some (elt,gens,s)) else none
theorem lcE_eq {e : Expr} {z : Expr × List Comprehension × Scope} (h : lcE e = some z) : ∃ p,e = .ListComp z.1 z.2.1 z.2.2 p := by
  by_cases hi : e.ctorIdx = 8
  · revert h
    exact @Expr.ListComp.elim (fun e => lcE e = some z → ∃ p,e = .ListComp z.1 z.2.1 z.2.2 p) e hi (fun _ _ _ _ h => by cases Option.some.inj h; exact ⟨_,rfl⟩)
  · exact noneX ((dif_neg hi).symm.trans h)
noncomputable def lamE (e : Expr) : Option (Arguments × Expr × Scope) := if h : e.ctorIdx = 4 then @Expr.Lambda.elim (fun _ => Option (Arguments × Expr × Scope)) e h (fun a b s p => some (a,b,s)) else none
theorem lamE_eq {e : Expr} {z : Arguments × Expr × Scope} (h : lamE e = some z) : ∃ p,e = .Lambda z.1 z.2.1 z.2.2 p := by
  by_cases hi : e.ctorIdx = 4
  · revert h
    exact @Expr.Lambda.elim (fun e => lamE e = some z → ∃ p,e = .Lambda z.1 z.2.1 z.2.2 p) e hi (fun _ _ _ _ h => by cases Option.some.inj h; exact ⟨_,rfl⟩)
  · exact noneX ((dif_neg hi).symm.trans h)
noncomputable def asgD (e : Stmt) : Option (List Expr × Expr × Pos) := if h : e.ctorIdx = 5 then @Stmt.Assign.elim (fun _ => Option (List Expr × Expr × Pos)) e h (fun ts v p => some (ts,v,p)) else none
theorem asgD_eq {e : Stmt} {z : List Expr × Expr × Pos} (h : asgD e = some z) : e = .Assign z.1 z.2.1 z.2.2 := by
  by_cases hi : e.ctorIdx = 5
  · revert h
    exact @Stmt.Assign.elim (fun e => asgD e = some z → e = .Assign z.1 z.2.1 z.2.2) e hi (fun _ _ _ h => by cases Option.some.inj h; exact rfl)
  · exact noneX ((dif_neg hi).symm.trans h)
noncomputable def ifD (e : Stmt) : Option (Expr × List Stmt × List Stmt) := if h : e.ctorIdx = 12 then @Stmt.If.elim (fun _ => Option (Expr × List Stmt × List Stmt)) e h (fun t a b p => some (t,a,b)) else none
theorem ifD_eq {e : Stmt} {z : Expr × List Stmt × List Stmt} (h : ifD e = some z) : ∃ p,e = .If z.1 z.2.1 z.2.2 p := by
  by_cases hi : e.ctorIdx = 12
  · revert h
    exact @Stmt.If.elim (fun e => ifD e = some z → ∃ p,e = .If z.1 z.2.1 z.2.2 p) e hi (fun _ _ _ _ h => by cases Option.some.inj h; exact ⟨_,rfl⟩)
  · exact noneX ((dif_neg hi).symm.trans h)
noncomputable def forD (e : Stmt) : Option (Expr × Expr × List Stmt × List Stmt) := if h : e.ctorIdx = 9 then @Stmt.For.elim (fun _ => Option (Expr × Expr × List Stmt × List Stmt)) e h (fun tg it b o p => some (tg,it,b,o)) else none
theorem forD_eq {e : Stmt} {z : Expr × Expr × List Stmt × List Stmt} (h : forD e = some z) : ∃ p,e = .For z.1 z.2.1 z.2.2.1 z.2.2.2 p := by
  by_cases hi : e.ctorIdx = 9
  · revert h
    exact @Stmt.For.elim (fun e => forD e = some z → ∃ p,e = .For z.1 z.2.1 z.2.2.1 z.2.2.2 p) e hi (fun _ _ _ _ _ h => by cases Option.some.inj h; exact ⟨_,rfl⟩)
  · exact noneX ((dif_neg hi).symm.trans h)
noncomputable def whlD (e : Stmt) : Option (Expr × List Stmt × List Stmt) := if h : e.ctorIdx = 11 then @Stmt.While.elim (fun _ => Option (Expr × List Stmt × List Stmt)) e h (fun t b o p => some (t,b,o)) else none
theorem whlD_eq {e : Stmt} {z : Expr × List Stmt × List Stmt} (h : whlD e = some z) : ∃ p,e = .While z.1 z.2.1 z.2.2 p := by
  by_cases hi : e.ctorIdx = 11
  · revert h
    exact @Stmt.While.elim (fun e => whlD e = some z → ∃ p,e = .While z.1 z.2.1 z.2.2 p) e hi (fun _ _ _ _ h => by cases Option.some.inj h; exact ⟨_,rfl⟩)
  · exact noneX ((dif_neg hi).symm.trans h)
noncomputable def retD (e : Stmt) : Option (Option Expr) := if h : e.ctorIdx = 3 then @Stmt.Return.elim (fun _ => Option (Option Expr)) e h (fun v p => some v) else none
theorem retD_eq {e : Stmt} {z : Option Expr} (h : retD e = some z) : ∃ p,e = .Return z p := by
  by_cases hi : e.ctorIdx = 3
  · revert h
    exact @Stmt.Return.elim (fun e => retD e = some z → ∃ p,e = .Return z p) e hi (fun _ _ h => by cases Option.some.inj h; exact ⟨_,rfl⟩)
  · exact noneX ((dif_neg hi).symm.trans h)
noncomputable def exD (e : Stmt) : Option Expr := if h : e.ctorIdx = 24 then @Stmt.Expr.elim (fun _ => Option Expr) e h (fun v p => some v) else none
theorem exD_eq {e : Stmt} {z : Expr} (h : exD e = some z) : ∃ p,e = .Expr z p := by
  by_cases hi : e.ctorIdx = 24
  · revert h
    exact @Stmt.Expr.elim (fun e => exD e = some z → ∃ p,e = .Expr z p) e hi (fun _ _ h => by cases Option.some.inj h; exact ⟨_,rfl⟩)
  · exact noneX ((dif_neg hi).symm.trans h)
noncomputable def contD (e : Stmt) : Option Pos := if h : e.ctorIdx = 27 then @Stmt.Continue.elim (fun _ => Option Pos) e h (fun p => some p) else none
theorem contD_eq {e : Stmt} {z : Pos} (h : contD e = some z) : e = .Continue z := by
  by_cases hi : e.ctorIdx = 27
  · revert h
    exact @Stmt.Continue.elim (fun e => contD e = some z → e = .Continue z) e hi (fun _ h => by cases Option.some.inj h; exact rfl)
  · exact noneX ((dif_neg hi).symm.trans h)
noncomputable def raiD (e : Stmt) : Option (Option Expr × Option Expr) := if h : e.ctorIdx = 16 then @Stmt.Raise.elim (fun _ => Option (Option Expr × Option Expr)) e h (fun a b p => some (a,b)) else none
theorem raiD_eq {e : Stmt} {z : Option Expr × Option Expr} (h : raiD e = some z) : ∃ p,e = .Raise z.1 z.2 p := by
  by_cases hi : e.ctorIdx = 16
  · revert h
    exact @Stmt.Raise.elim (fun e => raiD e = some z → ∃ p,e = .Raise z.1 z.2 p) e hi (fun _ _ _ h => by cases Option.some.inj h; exact ⟨_,rfl⟩)
  · exact noneX ((dif_neg hi).symm.trans h)
noncomputable def tryD (e : Stmt) : Option (List Stmt × List ExceptHandler × List Stmt × List Stmt) := if h : e.ctorIdx = 17 then @Stmt.Try.elim (fun _ => Option (List Stmt × List ExceptHandler × List Stmt × List Stmt)) e h (fun b h o f p => some (b,h,o,f)) else none
theorem tryD_eq {e : Stmt} {z : List Stmt × List ExceptHandler × List Stmt × List Stmt} (h : tryD e = some z) : ∃ p,e = .Try z.1 z.2.1 z.2.2.1 z.2.2.2 p := by
  by_cases hi : e.ctorIdx = 17
  · revert h
    exact @Stmt.Try.elim (fun e => tryD e = some z → ∃ p,e = .Try z.1 z.2.1 z.2.2.1 z.2.2.2 p) e hi (fun _ _ _ _ _ h => by cases Option.some.inj h; exact ⟨_,rfl⟩)
  · exact noneX ((dif_neg hi).symm.trans h)
noncomputable def negC (v : AV) (op : UnaryOp) (x : Expr) : Bool := match v with
  | .int i => op == .USub && optB (conE x) fun k => (match k with | .int j => i == -j | _ => false)
  | _ => false
noncomputable def isC (v : AV) (e : Expr) : Bool := match conE e with | some k => constIs v k | none => optB (unE e) fun z => negC v z.1 z.2
theorem nil_of {α : Type} {l : List α} (h : l.isEmpty = true) : l = [] := by cases l <;> first | rfl | cases h
theorem none_of {α : Type} {l : Option α} (h : l.isNone = true) : l = none := by cases l <;> first | rfl | cases h
noncomputable def callN (e : Expr) (k : Str → List Expr → Bool) : Bool := optB (callE e) fun z => z.2.2.1.isEmpty && optB (nameE z.1) fun y => k y.1 z.2.1
noncomputable def callM (e : Expr) (k : Expr → Str → Pos → List Expr → Pos → Bool) : Bool := optB (callE e) fun z => z.2.2.1.isEmpty && optB (attE z.1) fun y => k y.1 y.2.1 y.2.2 z.2.1 z.2.2.2
theorem callN_eq {e : Expr} {k : Str → List Expr → Bool} (h : callN e k = true) : ∃ x xp es p,e = .Call (.Name x xp) es [] p ∧ k x es = true :=
  by obtain ⟨z,h1,h⟩ := optB_some h; obtain ⟨y,h2,h3⟩ := optB_some (and2 h).2; exact ⟨y.1,y.2,z.2.1,z.2.2.2,by rw [callE_eq h1,nil_of (and2 h).1,nameE_eq h2],h3⟩
theorem callM_eq {e : Expr} {k : Expr → Str → Pos → List Expr → Pos → Bool} (h : callM e k = true) : ∃ o x xp es p,e = .Call (.Attribute o x xp) es [] p ∧ k o x xp es p = true :=
  by obtain ⟨z,h1,h⟩ := optB_some h; obtain ⟨y,h2,h3⟩ := optB_some (and2 h).2; exact ⟨y.1,y.2.1,y.2.2,z.2.1,z.2.2.2,by rw [callE_eq h1,nil_of (and2 h).1,attE_eq h2],h3⟩
noncomputable def noSuper (e : Expr) : Bool := !(optB (callE e) fun z => z.2.2.1.isEmpty && (z.2.1.isEmpty && (nameE z.1).isSome))
noncomputable def stepC (f : Sc → IE → Expr → Bool) (sc : Sc) (ie : IE) (e : Expr) : Bool := match ie with
  | .c v => isC v e
  | .loc k => optB (nameE e) fun z => sc.slots[k]? == some z.1 && notDebug z.1
  | .g i => optB (nameE e) fun z => (gtab[i]?).any (·.1 == z.1) && sc.glob z.1
  | .bin op l r => optB (binE e) fun z => op == z.2.1 && f sc l z.1 && f sc r z.2.2
  | .cmp l op r => optB (cmpE e) fun z => optB (one1 z.2.1) fun op' => optB (one1 z.2.2) fun r' => op == op' && f sc l z.1 && f sc r r' && !behindInMarks op r'
  | .chain l o1 m o2 r => optB (cmpE e) fun z => optB (two2 z.2.1) fun o => optB (two2 z.2.2) fun y => o1 == o.1 && o2 == o.2 && f sc l z.1 && f sc m y.1 && f sc r y.2 && !lastMarks [o1,o2] [y.1,y.2]
  | .not x => optB (unE e) fun z => z.1 == .Not && f sc x z.2
  | .and es => optB (boolE e) fun z => z.1 == .And && chkL (f sc) es z.2
  | .or es => optB (boolE e) fun z => z.1 == .Or && chkL (f sc) es z.2
  | .ife t a b => optB (ifE e) fun z => f sc t z.1 && f sc a z.2.1 && f sc b z.2.2
  | .call g es => callN e fun x es' => sc.glob x && ftab.lookup x == some g && chkL (f sc) es es'
  | .bcall b es => callN e fun x es' => sc.glob x && b.name == x && chkL (f sc) es es'
  | .callv k => callN e fun x es' => es'.isEmpty && sc.slots[k]? == some x && notDebug x
  | .meth g o es => callM e fun o' x apos es' pos => mtab.lookup x == some g && f sc o o' && chkL (f sc) es es' && (noSuper o' && apos.endLine == pos.line && decide (es'.length < 30))
  | .smeth s o es => callM e fun o' x apos es' pos => s.name == x && f sc o o' && chkL (f sc) es es' && (noSuper o' && apos.endLine == pos.line && decide (es'.length < 30))
  | .attr o C k => optB (attE e) fun z => (fieldsOf C)[k]? == some z.2.1 && f sc o z.1 && noSuper z.1
  | .idx o i => optB (subE e) fun z => !isSlice z.2.1 && f sc o z.1 && f sc i z.2.1
  | .slice o lo hi => optB (subE e) fun z => optB (slcE z.2.1) fun y => y.2.2.isNone && f sc o z.1 && (chkO (f sc) lo y.1 && chkO (f sc) hi y.2.1)
  | .tup es => optB (tupE e) fun z => chkL (f sc) es z.1
  | .lst _ es => optB (lstE e) fun z => chkL (f sc) es z
  | .comp _ elt x fr it cond => optB (lcE e) fun z => optB (one1 z.2.1) fun g => optB (nameE g.target) fun y => compOk sc z.2.2 x fr && (x == y.1 && g.is_async == 0 && notSet g.iter) && f sc it g.iter && f (inSc sc z.2.2 x fr) elt z.1 && chkL (f (inSc sc z.2.2 x fr)) cond.toList g.ifs
  | .lam j fr => optB (lamE e) fun z => sc.tab.isSome && lamFr sc j z.2.2 fr && lamC f j z.1 z.2.1 z.2.2
noncomputable def chkE : Nat → Sc → IE → Expr → Bool := fun n => Nat.rec (fun _ _ _ => false) (fun _ r => stepC r) n
noncomputable def LamIs (j : Nat) (params : Arguments) (body : Expr) (s : Scope) : Prop := ∃ n,lamC (chkE n) j params body s = true
noncomputable def notComp (e : Expr) : Bool := !(e.ctorIdx == 8 || (e.ctorIdx == 9 || e.ctorIdx == 10))
noncomputable def tgt1 (sc : Sc) (k : Nat) (c : Bool) (e : Expr) : Bool := optB (nameE e) fun y => sc.slots[k]? == some y.1 && notDebug y.1 && sc.cells.contains y.1 == c
noncomputable def tgts (sc : Sc) : Ks → List Expr → Bool
  | [],[] => true
  | (k,c) :: ks,e :: es => tgt1 sc k c e && tgts sc ks es
  | _,_ => false
noncomputable def tgt (sc : Sc) (ks : Ks) (one : Bool) (e : Expr) : Bool := match one with
  | true => optB (one1 ks) fun k => tgt1 sc k.1 k.2 e
  | false => optB (tupE e) fun y => tgts sc ks y.1
noncomputable def isStar (e : Expr) : Bool := e.ctorIdx == 22
noncomputable def swapOk (sc : Sc) (es : List Expr) (value : Expr) : Bool := optB (tupE value) fun z => (es.length == 2 || es.length == 3) && z.1.length == es.length && !(z.1.any isStar) &&
    (es.all fun e => optB (nameE e) fun y => !sc.cells.contains y.1 && y.2.line == (es.head?.map (·.pos.line)).getD 0) &&
    (es.filterMap fun e => (nameE e).map (·.1)).eraseDups.length == es.length && !(z.1.all (foldedForSure 8)) && !(z.1.all (constantsAlone 8))
noncomputable def notTup (e : Expr) : Bool := e.ctorIdx != 25
noncomputable def asgOk (x : Str) (ps : Pos) (c : Bool) (e' : Expr) : Bool := match e'.ctorIdx == 8 with
  | true => optB (lcE e') fun z => !c && ps.line == e'.pos.line && !(z.2.2.names.any fun y => y.1 == x && (y.2 == .local || y.2 == .cell))
  | false => notComp e'
noncomputable def handD (h : ExceptHandler) : Option (Str × Stmt) := match h with | .ExceptHandler ty nm b _ => if nm.isNone then ty.bind fun e => (nameE e).bind fun y => (one1 b).bind fun s => some (y.1,s) else none
theorem handD_eq {h : ExceptHandler} {z : Str × Stmt} (e : handD h = some z) : ∃ np p,h = .ExceptHandler (some (.Name z.1 np)) none [z.2] p := by
  obtain ⟨ty,nm,b,p⟩ := h
  cases nm with
  | some _ => exact noneX e
  | none =>
    obtain ⟨e1,h1,e2⟩ := Option.bind_eq_some_iff.mp e
    obtain ⟨y,h2,e3⟩ := Option.bind_eq_some_iff.mp e2
    obtain ⟨s,h3,e4⟩ := Option.bind_eq_some_iff.mp e3
    rw [← Option.some.inj e4]
    exact ⟨y.2,p,by rw [h1,nameE_eq h2,one1_eq h3]⟩
noncomputable def chkSt (fE : Sc → IE → Expr → Bool) (g : Sc → List IS → List Stmt → Bool) (sc : Sc) (ist : IS) (st : Stmt) : Bool := match ist with
  | .asg k c e => optB (asgD st) fun z => optB (one1 z.1) fun tg => optB (nameE tg) fun y => tgt1 sc k c (.Name y.1 y.2) && fE sc e z.2.1 && asgOk y.1 y.2 c z.2.1
  | .asgT ks sw e => optB (asgD st) fun z => optB (one1 z.1) fun tg => optB (tupE tg) fun y => tgts sc ks y.1 && fE sc e z.2.1 && notComp z.2.1 && (if sw then swapOk sc y.1 z.2.1 else notTup z.2.1)
  | .asgI o i e => optB (asgD st) fun z => optB (one1 z.1) fun tg => optB (subE tg) fun y => fE sc o y.1 && fE sc i y.2.1 && fE sc e z.2.1 && notComp z.2.1
  | .iff t a b => optB (ifD st) fun z => fE sc t z.1 && g sc a z.2.1 && g sc b z.2.2
  | .forS ks one it b => optB (forD st) fun z => z.2.2.2.isEmpty && (sc.loops && tgt sc ks one z.1 && fE sc it z.2.1 && g sc b z.2.2.1 && notSet z.2.1 && ks.all (fun x => !x.2))
  | .forE ki kv it b => optB (forD st) fun z => z.2.2.2.isEmpty && optB (tupE z.1) fun y => optB (two2 y.1) fun es => optB (nameE es.1) fun x => optB (nameE es.2) fun x2 => callN z.2.1 fun zz as => optB (one1 as) fun it' =>
      sc.loops && tgts sc [(ki,false),(kv,false)] [.Name x.1 x.2,.Name x2.1 x2.2] && (sc.glob zz && zz == "enumerate") && fE sc it it' && g sc b z.2.2.1
  | .whileS t b => optB (whlD st) fun z => z.2.2.isEmpty && (sc.loops && fE sc t z.1 && g sc b z.2.1)
  | .ret e => optB (retD st) fun z => optB z fun e' => fE sc e e'
  | .ex e => optB (exD st) fun e' => fE sc e e' && notComp e'
  | .cont => optB (contD st) fun _ => true
  | .raise C e => optB (raiD st) fun z => z.2.isNone && optB z.1 fun ex => callN ex fun x as => optB (one1 as) fun e' => sc.glob x && ftab.lookup x == some C && (C == 59 || C == 71 || C == 83) && fE sc e e'
  | .tryS e C v => optB (tryD st) fun z => z.2.2.1.isEmpty && z.2.2.2.isEmpty && optB (one1 z.1) fun b => optB (one1 z.2.1) fun h => optB (exD b) fun e' => optB (handD h) fun y => optB (retD y.2) fun r => optB r fun re => optB (conE re) fun k => sc.glob y.1 && ftab.lookup y.1 == some C && (C == 59 || C == 71 || C == 83) && (fE sc e e' && notComp e' && constIs v k)
noncomputable def stepCS (fE : Sc → IE → Expr → Bool) (g : Sc → List IS → List Stmt → Bool) (sc : Sc) : List IS → List Stmt → Bool
  | [],[] => true
  | a :: r,b :: t => chkSt fE g sc a b && g sc r t
  | _,_ => false
noncomputable def chkS : Nat → Sc → List IS → List Stmt → Bool := fun n => Nat.rec (fun _ _ _ => false) (fun n r => stepCS (chkE n) r) n
inductive EntsR (P : Params) : List Str → List DictEntry → List Value → Prop
  | nil : EntsR P [] [] []
  | cons {x : Str} {t : Tok} {u : Value} {xs : List Str} {es : List DictEntry} {us : List Value} : EntsR P xs es us → EntsR P (x :: xs) (⟨PyData.keyHash P x,.str x t,u⟩ :: es) (u :: us)
noncomputable def Tb (q : Addr × Obj) : Prop := q.2.cls = .none ∧ (∃ ps,q.2.data = .fields ps) ∧ (q.1 = 640 ∨ q.1 = 645)
theorem Tb.no {q : Addr × Obj} (h : ∀ ps,q.2.data ≠ .fields ps) : ¬ Tb q := fun ⟨_,⟨ps,e⟩,_⟩ => h ps e
theorem Tb.cl {q : Addr × Obj} (h : q.2.cls ≠ .none) : ¬ Tb q := fun ⟨e,_⟩ => h e
noncomputable def tabQ (P : Nat) : Str := if P = 640 then "_law_row_right.<locals>.<lambda>" else "_law_names_right.<locals>.<lambda>"
noncomputable def CodeAt (I : Led) (c : Addr) (qual : Str) : Prop := (c ≠ 640 ∧ c ≠ 645) ∧ ∃ oc ov t,(c,oc) ∈ I ∧ oc.data = .fields ov ∧ ov[1]? = some (.str qual t)
theorem CodeAt.mono {I I' : Led} {c : Addr} {qual : Str} (hI : ∀ q ∈ I,¬ Tb q → q ∈ I') (h : CodeAt I c qual) : CodeAt I' c qual := by
  obtain ⟨h0,oc,ov,t,h1,h2,h3⟩ := h
  exact ⟨h0,oc,ov,t,hI _ h1 (fun ⟨_,_,h⟩ => h.elim h0.1 h0.2),h2,h3⟩
inductive FnAt (I : Led) (j : Nat) (a : Addr) (us : List Value) : Prop
  | mk (name qual params body scope clos pm c' ctv names ie) (h1 : (a,kla_obj name qual params body scope clos pm c' ctv) ∈ I) (h2 : CodeAt I c' qual) (h3 : LamIs j params body scope)
  (h4 : lams[j]? = some (names,ie)) (h5 : us.length = names.length) (h6 : ∀ (k : Nat) (y : Str) (u : Value),names[k]? = some y → us[k]? = some u → ∃ ca o,clos.lookup y = some ca ∧ (ca,o) ∈ I ∧ o.data = .cell (some u))
theorem FnAt.mono {I I' : Led} {j : Nat} {a : Addr} {us : List Value} (hI : ∀ q ∈ I,¬ Tb q → q ∈ I') (h : FnAt I j a us) : FnAt I' j a us := by
  obtain ⟨name,qual,params,body,scope,clos,pm,c',ctv,names,ie,h1,h2,h3,h4,h5,h6⟩ := h
  refine ⟨name,qual,params,body,scope,clos,pm,c',ctv,names,ie,hI _ h1 (Tb.cl fun h => nomatch h),h2.mono hI,h3,h4,h5,fun k y u e1 e2 => ?_⟩
  refine byC fun no9 => ?_
  obtain ⟨ca,o,a1,a2,a3⟩ := h6 k y u e1 e2
  refine no9 ?_
  clear no9
  exact ⟨ca,o,a1,hI _ a2 (Tb.no fun ps e => by rw [a3] at e; cases e),a3⟩
inductive Tr3 : List Value → Prop where
  | nil : Tr3 []
  | cons {i j : Int} {t u : Tok} {z : Value} {r : List Value} : Tr3 r → Tr3 (.int i t :: .int j u :: z :: r)
theorem Tr3.ok {l : List Value} (h : Tr3 l) : TriplesOk l := by
  induction h with
  | nil => exact trivial
  | cons _ ih => exact ih
noncomputable def TabsOk (I : Led) : Prop := ∀ P,P = 640 ∨ P = 645 → ∃ ps,(P,tabObj ps) ∈ I ∧ Tr3 ps.toList ∧ ∀ pos v,codeAmong pos ps.toList = some v → ∃ c,v = .ref c ∧ CodeAt I c (tabQ P)
theorem TabsOk.mono {I I' : Led} (hI : ∀ q ∈ I,q ∈ I') (h : TabsOk I) : TabsOk I' := fun P hP =>
  by obtain ⟨ps,h1,h2,h3⟩ := h P hP; exact ⟨ps,hI _ h1,h2,fun pos v e => by obtain ⟨c,e1,e2⟩ := h3 pos v e; exact ⟨c,e1,e2.mono fun q hq _ => hI q hq⟩⟩
inductive Rs (P : Params) (I : Led) (xs : List Addr) : List AV → List Value → Prop
  | nil : Rs P I xs [] []
  | none {r R} : Rs P I xs r R → Rs P I xs (.none :: r) (.none :: R)
  | bool {r R} (b) : Rs P I xs r R → Rs P I xs (.bool b :: r) (.bool b :: R)
  | int {r R} (n t) : Rs P I xs r R → Rs P I xs (.int n :: r) (.int n t :: R)
  | str {r R} (x t) : Rs P I xs r R → Rs P I xs (.str x :: r) (.str x t :: R)
  | bytes {r R} (ns) (b : Array UInt8) (t) : b.toList.map (fun b => (b.toNat : Int)) = ns → Rs P I xs r R → Rs P I xs (.bytes ns :: r) (.bytes b t :: R)
  | tup {r R} {ys a vs c} : (a,tupO vs c) ∈ I → Rs P I xs ys vs → Rs P I xs r R → Rs P I xs (.tup ys :: r) (.ref a :: R)
  | lst {r R} {ys a vs c} : (a,lstO vs c) ∈ I → Rs P I xs ys vs → Rs P I xs r R → Rs P I xs (.lst ys :: r) (.ref a :: R)
  | inst {r R} {C fs a d es us c} : (a,instObj C d) ∈ I → (d,dictOf es c) ∈ I → EntsR P (fieldsOf C) es us → Rs P I xs fs us → Rs P I xs r R → Rs P I xs (.inst C fs :: r) (.ref a :: R)
  | mu {r R} {i a} : xs[i]? = some a → Rs P I xs r R → Rs P I xs (.mu i :: r) (.ref a :: R)
  | val {r R} (v) : Rs P I xs r R → Rs P I xs (.val v :: r) (v :: R)
  | rng {r R} {lo hi st a t u v} : (a,rangeO lo hi st t u v) ∈ I → Rs P I xs r R → Rs P I xs (.rng lo hi st :: r) (.ref a :: R)
  | ext {r R} {ys a vs o c} : (a,o) ∈ I → o.cls = .type "list" → o.data = .seq vs.toArray c → Rs P I xs ys vs → Rs P I xs r R → Rs P I xs (.ext ys :: r) (.ref a :: R)
  | fn {r R} {j caps a us} : FnAt I j a us → Rs P I xs caps us → Rs P I xs r R → Rs P I xs (.fn j caps :: r) (.ref a :: R)
noncomputable abbrev RepV (P : Params) (I : Led) (xs : List Addr) (v : AV) (V : Value) : Prop := Rs P I xs [v] [V]
section
variable {P : Params} {I I' : Led} {xs xs' : List Addr} {v : AV} {V : Value} {l : List AV} {R : List Value}
theorem Rs.monoT (hI : ∀ q ∈ I,¬ Tb q → q ∈ I') (hx : ∀ (i : Nat) (a : Addr),xs[i]? = some a → xs'[i]? = some a) (h : Rs P I xs l R) : Rs P I' xs' l R := by
  induction h with
  | nil => exact .nil
  | none _ ih => exact .none ih
  | bool b _ ih => exact .bool b ih
  | int n t _ ih => exact .int n t ih
  | str x t _ ih => exact .str x t ih
  | bytes ns b t e _ ih => exact .bytes ns b t e ih
  | tup m _ _ i1 i2 => exact .tup (hI _ m (Tb.cl fun h => nomatch h)) i1 i2
  | lst m _ _ i1 i2 => exact .lst (hI _ m (Tb.cl fun h => nomatch h)) i1 i2
  | inst m1 m2 e _ _ i1 i2 => exact .inst (hI _ m1 (Tb.cl fun h => nomatch h)) (hI _ m2 (Tb.cl fun h => nomatch h)) e i1 i2
  | mu e _ ih => exact .mu (hx _ _ e) ih
  | val w _ ih => exact .val w ih
  | rng m _ ih => exact .rng (hI _ m (Tb.cl fun h => nomatch h)) ih
  | ext m hc hd _ _ i1 i2 => exact .ext (hI _ m (Tb.cl fun h => nomatch hc.symm.trans h)) hc hd i1 i2
  | fn m _ _ i1 i2 => exact .fn (m.mono hI) i1 i2
theorem Rs.mono (hI : ∀ q ∈ I,q ∈ I') (hx : ∀ (i : Nat) (a : Addr),xs[i]? = some a → xs'[i]? = some a) (h : Rs P I xs l R) : Rs P I' xs' l R := h.monoT (fun q hq _ => hI q hq) hx
noncomputable def RvI (P : Params) (I : Led) (xs : List Addr) (v : AV) (V : Value) : Prop := match v with
  | .none => V = .none
  | .bool b => V = .bool b
  | .int n => ∃ t,V = .int n t
  | .str x => ∃ t,V = .str x t
  | .bytes ns => ∃ b t,V = .bytes b t ∧ b.toList.map (fun b => (b.toNat : Int)) = ns
  | .tup ys => ∃ a vs c,V = .ref a ∧ (a,tupO vs c) ∈ I ∧ Rs P I xs ys vs
  | .lst ys => ∃ a vs c,V = .ref a ∧ (a,lstO vs c) ∈ I ∧ Rs P I xs ys vs
  | .inst C fs => ∃ a d es us c,V = .ref a ∧ (a,instObj C d) ∈ I ∧ (d,dictOf es c) ∈ I ∧ EntsR P (fieldsOf C) es us ∧ Rs P I xs fs us
  | .mu i => ∃ a,V = .ref a ∧ xs[i]? = some a
  | .val w => V = w
  | .rng lo hi st => ∃ a t u v,V = .ref a ∧ (a,rangeO lo hi st t u v) ∈ I
  | .ext ys => ∃ a vs o c,V = .ref a ∧ (a,o) ∈ I ∧ o.cls = .type "list" ∧ o.data = .seq vs.toArray c ∧ Rs P I xs ys vs
  | .fn j caps => ∃ a us,V = .ref a ∧ FnAt I j a us ∧ Rs P I xs caps us
noncomputable def RsHd (P : Params) (I : Led) (xs : List Addr) : List AV → List Value → Prop
  | [],R => R = []
  | v :: l,R => ∃ V R',R = V :: R' ∧ RvI P I xs v V ∧ RepV P I xs v V ∧ Rs P I xs l R'
theorem RsHd.mk (i : RvI P I xs v V) (h : RepV P I xs v V) (r : Rs P I xs l R) : RsHd P I xs (v :: l) (V :: R) := ⟨V,R,rfl,i,h,r⟩
theorem Rs.hd (h : Rs P I xs l R) : RsHd P I xs l R := by
  cases h with
  | nil => exact rfl
  | none r => exact .mk rfl (.none .nil) r
  | bool b r => exact .mk rfl (.bool b .nil) r
  | int n t r => exact .mk ⟨t,rfl⟩ (.int n t .nil) r
  | str x t r => exact .mk ⟨t,rfl⟩ (.str x t .nil) r
  | bytes ns b t e r => exact .mk ⟨b,t,rfl,e⟩ (.bytes ns b t e .nil) r
  | tup m h r => exact .mk ⟨_,_,_,rfl,m,h⟩ (.tup m h .nil) r
  | lst m h r => exact .mk ⟨_,_,_,rfl,m,h⟩ (.lst m h .nil) r
  | inst m1 m2 e h r => exact .mk ⟨_,_,_,_,_,rfl,m1,m2,e,h⟩ (.inst m1 m2 e h .nil) r
  | mu e r => exact .mk ⟨_,rfl,e⟩ (.mu e .nil) r
  | val w r => exact .mk rfl (.val _ .nil) r
  | rng m r => exact .mk ⟨_,_,_,_,rfl,m⟩ (.rng m .nil) r
  | ext m hc hd h r => exact .mk ⟨_,_,_,_,rfl,m,hc,hd,h⟩ (.ext m hc hd h .nil) r
  | fn m h r => exact .mk ⟨_,_,rfl,m,h⟩ (.fn m h .nil) r
theorem Rs.uncons (h : Rs P I xs (v :: l) R) : ∃ V R',R = V :: R' ∧ RepV P I xs v V ∧ Rs P I xs l R' :=
  by obtain ⟨V,R',e,_,h1,h2⟩ := h.hd; exact ⟨V,R',e,h1,h2⟩
theorem RepV.inv (h : RepV P I xs v V) : RvI P I xs v V :=
  by obtain ⟨_,_,e,i,_⟩ := h.hd; exact (List.cons.inj e).1 ▸ i
theorem Rs.nil0 (h : Rs P I xs [] R) : R = [] := h.hd
theorem Rs.one {v : AV} (h : Rs P I xs [v] R) : ∃ V,R = [V] ∧ RepV P I xs v V :=
  by obtain ⟨V,R',e,h1,h2⟩ := h.uncons; exact ⟨V,by rw [e,h2.nil0],h1⟩
theorem Rs.two {v v' : AV} (h : Rs P I xs [v,v'] R) : ∃ V V',R = [V,V'] ∧ RepV P I xs v V ∧ RepV P I xs v' V' :=
  by obtain ⟨V,R',e,h1,h2⟩ := h.uncons; exact by obtain ⟨V',e',h'⟩ := h2.one; exact ⟨V,V',by rw [e,e'],h1,h'⟩
theorem RvI.cons (h : RvI P I xs v V) (r : Rs P I xs l R) : Rs P I xs (v :: l) (V :: R) := by
  cases v with
  | none => cases h; exact .none r
  | bool b => cases h; exact .bool b r
  | int n => obtain ⟨t,rfl⟩ := h; exact .int n t r
  | str x => obtain ⟨t,rfl⟩ := h; exact .str x t r
  | bytes ns => obtain ⟨b,t,rfl,e⟩ := h; exact .bytes ns b t e r
  | tup ys => obtain ⟨_,_,_,rfl,m,h⟩ := h; exact .tup m h r
  | lst ys => obtain ⟨_,_,_,rfl,m,h⟩ := h; exact .lst m h r
  | inst C fs => obtain ⟨_,_,_,_,_,rfl,m1,m2,e,h⟩ := h; exact .inst m1 m2 e h r
  | mu i => obtain ⟨_,rfl,e⟩ := h; exact .mu e r
  | val w => cases h; exact .val _ r
  | rng lo hi st => obtain ⟨_,_,_,_,rfl,m⟩ := h; exact .rng m r
  | ext ys => obtain ⟨_,_,_,_,rfl,m,hc,hd,h⟩ := h; exact .ext m hc hd h r
  | fn j caps => obtain ⟨_,_,rfl,m,h⟩ := h; exact .fn m h r
theorem Rs.cons (h : RepV P I xs v V) (r : Rs P I xs l R) : Rs P I xs (v :: l) (V :: R) := h.inv.cons r
theorem Rs.length : ∀ {l : List AV} {R : List Value},Rs P I xs l R → R.length = l.length
  | [],_,h => h.hd ▸ rfl
  | _ :: _,_,h => by obtain ⟨_,_,e,_,r⟩ := h.uncons; exact e ▸ congrArg Nat.succ r.length
theorem Rs.app {l' : List AV} {R' : List Value} (h : Rs P I xs l R) (h' : Rs P I xs l' R') : Rs P I xs (l ++ l') (R ++ R') := by
  induction l generalizing R with
  | nil => cases h.nil0; exact h'
  | cons v l ih => obtain ⟨V,R1,rfl,h1,h2⟩ := h.uncons; exact .cons h1 (ih h2)
theorem Rs.get : ∀ {l : List AV} {R : List Value},Rs P I xs l R → ∀ {k : Nat} {v : AV},l[k]? = some v → ∃ V,R[k]? = some V ∧ RepV P I xs v V := by
  intro l
  induction l with
  | nil => intro R h k v e; exact noneX e
  | cons w l ih =>
    intro R h k v e
    obtain ⟨V,R1,rfl,h1,h2⟩ := h.uncons
    cases k with
    | zero => cases Option.some.inj e; exact ⟨V,rfl,h1⟩
    | succ k => exact ih h2 e
theorem Rs.getV : ∀ {l : List AV} {R : List Value},Rs P I xs l R → ∀ {k : Nat} {V : Value},R[k]? = some V → ∃ v,l[k]? = some v ∧ RepV P I xs v V := by
  intro l
  induction l with
  | nil => intro R h k v e; cases h; exact noneX e
  | cons w l ih =>
    intro R h k v e
    obtain ⟨V,R1,rfl,h1,h2⟩ := h.uncons
    cases k with
    | zero => cases Option.some.inj e; exact ⟨w,rfl,h1⟩
    | succ k => exact ih h2 e
theorem Rs.set : ∀ {l : List AV} {R : List Value},Rs P I xs l R → ∀ (k : Nat) {v : AV} {V : Value},RepV P I xs v V → Rs P I xs (l.set k v) (R.set k V) := by
  intro l
  induction l with
  | nil => intro R h k v V _; cases h.nil0; exact .nil
  | cons w l ih =>
    intro R h k v V hv
    obtain ⟨V1,R1,rfl,h1,h2⟩ := h.uncons
    cases k with
    | zero => exact .cons hv h2
    | succ k => exact .cons h1 (ih h2 k hv)
theorem RepV.i {n : Int} (h : RepV P I xs (.int n) V) : ∃ t,V = .int n t := h.inv
theorem RepV.b {b : Bool} (h : RepV P I xs (.bool b) V) : V = .bool b := h.inv
theorem RepV.s {n : Str} (h : RepV P I xs (.str n) V) : ∃ t,V = .str n t := h.inv
theorem RepV.n (h : RepV P I xs .none V) : V = .none := h.inv
theorem RepV.vl {w : Value} (h : RepV P I xs (.val w) V) : V = w := h.inv
theorem RepV.tu {ys : List AV} (h : RepV P I xs (.tup ys) V) : ∃ a vs c,V = .ref a ∧ (a,tupO vs c) ∈ I ∧ Rs P I xs ys vs := h.inv
theorem RepV.ls {ys : List AV} (h : RepV P I xs (.lst ys) V) : ∃ a vs c,V = .ref a ∧ (a,lstO vs c) ∈ I ∧ Rs P I xs ys vs := h.inv
theorem RepV.by' {ns : List Int} (h : RepV P I xs (.bytes ns) V) : ∃ b t,V = .bytes b t ∧ b.toList.map (fun b => (b.toNat : Int)) = ns := h.inv
theorem RepV.mm {i : Nat} (h : RepV P I xs (.mu i) V) : ∃ a,V = .ref a ∧ xs[i]? = some a := h.inv
theorem RepV.rn {lo hi st : Int} (h : RepV P I xs (.rng lo hi st) V) : ∃ a t u v,V = .ref a ∧ (a,rangeO lo hi st t u v) ∈ I := h.inv
theorem RepV.ex {ys : List AV} (h : RepV P I xs (.ext ys) V) : ∃ a vs o c,V = .ref a ∧ (a,o) ∈ I ∧ o.cls = .type "list" ∧ o.data = .seq vs.toArray c ∧ Rs P I xs ys vs := h.inv
theorem RepV.ins {C : Nat} {fs : List AV} (h : RepV P I xs (.inst C fs) V) : ∃ a d es us c,V = .ref a ∧ (a,instObj C d) ∈ I ∧ (d,dictOf es c) ∈ I ∧ EntsR P (fieldsOf C) es us ∧ Rs P I xs fs us := h.inv
theorem RepV.f {j : Nat} {caps : List AV} (h : RepV P I xs (.fn j caps) V) : ∃ a us,V = .ref a ∧ FnAt I j a us ∧ Rs P I xs caps us := h.inv
end
inductive MoR (P : Params) (I : Led) : MH → Led → Prop
  | nil : TabsOk I → MoR P I [] []
  | cons {c : List AV} {vs : List Value} {H : MH} {Mo : Led} (a : Addr) (n : Nat) : Rs P I [] c vs → MoR P I H Mo → MoR P I (c :: H) ((a,lstO vs n) :: Mo)
theorem MoR.re {P : Params} {I I' : Led} {H : MH} {Mo : Led} (hI : ∀ q ∈ I,¬ Tb q → q ∈ I') (hT : TabsOk I') (h : MoR P I H Mo) : MoR P I' H Mo := by
  induction h with
  | nil => exact .nil hT
  | cons a n r _ ih => exact .cons a n (r.monoT hI fun _ _ h => h) ih
theorem MoR.tabs {P : Params} {I : Led} {H : MH} {Mo : Led} (h : MoR P I H Mo) : TabsOk I := by
  induction h with
  | nil h => exact h
  | cons _ _ _ _ ih => exact ih
theorem MoR.mono {P : Params} {I I' : Led} {H : MH} {Mo : Led} (hI : ∀ q ∈ I,q ∈ I') (h : MoR P I H Mo) : MoR P I' H Mo := h.re (fun q hq _ => hI q hq) (h.tabs.mono hI)
theorem MoR.app {P : Params} {I : Led} {H H' : MH} {Mo Mo' : Led} (h : MoR P I H Mo) (h' : MoR P I H' Mo') : MoR P I (H ++ H') (Mo ++ Mo') := by
  induction h with
  | nil _ => exact h'
  | cons a n r _ ih => exact .cons a n r ih
theorem MoR.length {P : Params} {I : Led} {H : MH} {Mo : Led} (h : MoR P I H Mo) : Mo.length = H.length := by
  induction h with
  | nil => rfl
  | cons a n r _ ih => simp [ih]
noncomputable def MoHd (P : Params) (I : Led) : MH → Led → Prop
  | [],Mo => Mo = [] ∧ TabsOk I
  | c :: H,Mo => ∃ a vs n Mo',Mo = (a,lstO vs n) :: Mo' ∧ Rs P I [] c vs ∧ MoR P I H Mo'
theorem MoR.hd {P : Params} {I : Led} {H : MH} {Mo : Led} (h : MoR P I H Mo) : MoHd P I H Mo := by
  cases h with
  | nil h => exact ⟨rfl,h⟩
  | cons a n r h => exact ⟨a,_,n,_,rfl,r,h⟩
theorem MoR.get {P : Params} {I : Led} : ∀ {H : MH} {Mo : Led},MoR P I H Mo → ∀ {i : Nat} {c : List AV},H[i]? = some c → ∃ a vs n,Mo[i]? = some (a,lstO vs n) ∧ Rs P I [] c vs := by
  intro H
  induction H with
  | nil => intro Mo h i c e; exact noneX e
  | cons c H ih =>
    intro Mo h i c e
    refine byC fun no9 => ?_
    obtain ⟨a,vs,n,Mo',rfl,r,h⟩ := h.hd
    refine no9 ?_
    clear no9
    cases i with
    | zero => cases Option.some.inj e; exact ⟨a,_,n,rfl,r⟩
    | succ i => exact ih h e
theorem MoR.set {P : Params} {I : Led} : ∀ {H : MH} {Mo : Led},MoR P I H Mo → ∀ (i : Nat) {c : List AV} (a : Addr) {vs : List Value} (n : Nat),Rs P I [] c vs → MoR P I (H.set i c) (Mo.set i (a,lstO vs n)) := by
  intro H
  induction H with
  | nil => intro Mo h i c a vs n r; obtain ⟨rfl,h2⟩ := h.hd; exact .nil h2
  | cons c H ih =>
    intro Mo h i c a vs n r
    obtain ⟨a',vs',n',Mo',rfl,r',h⟩ := h.hd
    cases i with
    | zero => exact .cons a n r h
    | succ i => exact .cons a' n' r' (ih h i a n r)
structure FrameCx where
  dp : Nat
  un : Nat
  gd : Option (List Code)
  cn : Str
  cs : Scope
  L : Addr
  a : Addr
  ccd : Value
  cl : List (Str × Addr)
  outer : List Env
  A₀ : Around
  base : Heap
noncomputable abbrev FrameCx.A (c : FrameCx) : Around := ktrTop c.dp c.un c.gd c.cn c.cs c.L c.a c.ccd c.cl c.outer
noncomputable abbrev FrameCx.env (c : FrameCx) : Env := envX c.cn c.cs c.L c.a c.ccd c.cl
noncomputable abbrev FrameCx.frs (c : FrameCx) : List Addr := c.outer.filterMap (·.frame)
structure FrameCx.Ok (c : FrameCx) (K : Frag) (p : Program) (loose : List Str) (mean : ExcName → Option Value) (mg mb : Str → Option Value) : Prop where
  kin : K.In c.base
  top : Top p loose mean mg mb c.base
  fn : c.cs.kind = .function
structure Wd where
  I : Led
  Mo : Led
  g : Heap
noncomputable abbrev Wd.xs (w : Wd) : List Addr := w.Mo.map (·.1)
noncomputable abbrev Wd.all (w : Wd) (X : Led) : Led := w.I ++ (w.Mo ++ X)
structure RepS (c : FrameCx) (P : Params) (m : Str → Option Value) (X : Led) (H : MH) (w : Wd) (h : Heap) : Prop where
  below : Below c.A₀ c.base c.outer w.g
  dic : KtsDicts c.frs w.g
  fr : Fr w.g c.L h m
  nw : News w.g c.L h (w.all X)
  mr : MoR P w.I H w.Mo
  nd : w.xs.Nodup
  sp : ∀ e ∈ w.Mo,∀ q ∈ w.I ++ X,q.1 ≠ e.1
  ap : ∀ q ∈ w.I,∀ x ∈ X,q.1 ≠ x.1
structure Ext (w w' : Wd) : Prop where
  sub : ∀ q ∈ w.I,¬ Tb q → q ∈ w'.I
  pre : ∀ (i : Nat) (a : Addr),w.xs[i]? = some a → w'.xs[i]? = some a
theorem Ext.refl (w : Wd) : Ext w w := ⟨fun _ h _ => h,fun _ _ h => h⟩
theorem Ext.trans {w w₁ w₂ : Wd} (E : Ext w w₁) (F : Ext w₁ w₂) : Ext w w₂ := ⟨fun q h n => F.sub q (E.sub q h n) n,fun i a h => F.pre i a (E.pre i a h)⟩
noncomputable def Same (s s' : Shared) : Prop := ∃ h tk,s' = { s with heap := h,toks := tk }
theorem Same.refl (s : Shared) : Same s s := ⟨s.heap,s.toks,rfl⟩
theorem Same.trans {s s₁ s₂ : Shared} (h : Same s s₁) (g : Same s₁ s₂) : Same s s₂ := by
  obtain ⟨_,_,rfl⟩ := h; obtain ⟨_,_,rfl⟩ := g; exact ⟨_,_,rfl⟩
theorem Same.mk {s : Shared} {h : Heap} {tk : Nat} : Same s { s with heap := h,toks := tk } := ⟨_,_,rfl⟩
theorem Same.tk {s : Shared} {tk : Nat} : Same s { s with toks := tk } := ⟨s.heap,_,rfl⟩
theorem Same.hp {s : Shared} {h : Heap} : Same s { s with heap := h } := ⟨_,s.toks,rfl⟩
structure Step (ql : Bool) (c : FrameCx) (w : Wd) (s : Shared) (w' : Wd) (s' : Shared) : Prop where
  same : Same s s'
  turn : KtsTurn c.frs w.g w'.g
  ext : Ext w w'
  still : ql = true → w'.g = w.g
theorem Step.refl {ql : Bool} (c : FrameCx) (w : Wd) (s : Shared) : Step ql c w s w s := ⟨.refl s,.refl,.refl w,fun _ => rfl⟩
theorem Step.trans {ql : Bool} {c : FrameCx} {w w₁ w₂ : Wd} {s s₁ s₂ : Shared} (a : Step ql c w s w₁ s₁) (b : Step ql c w₁ s₁ w₂ s₂) : Step ql c w s w₂ s₂ := ⟨a.same.trans b.same,a.turn.trans b.turn,a.ext.trans b.ext,fun h => (b.still h).trans (a.still h)⟩
theorem Step.tk {ql : Bool} {c : FrameCx} {w : Wd} {s : Shared} {tk : Nat} : Step ql c w s w { s with toks := tk } := ⟨.tk,.refl,.refl w,fun _ => rfl⟩
noncomputable abbrev Wd.rep (P : Params) (w : Wd) (l : List AV) (R : List Value) : Prop := Rs P w.I w.xs l R
theorem Wd.rep.step {ql : Bool} {P : Params} {c : FrameCx} {w w' : Wd} {s s' : Shared} {l : List AV} {R : List Value} (h : w.rep P l R) (E : Step ql c w s w' s') : w'.rep P l R := h.monoT E.ext.sub E.ext.pre
theorem Rs.step {ql : Bool} {P : Params} {c : FrameCx} {w w' : Wd} {s s' : Shared} {l : List AV} {R : List Value} (h : Rs P w.I w.xs l R) (E : Step ql c w s w' s') : Rs P w'.I w'.xs l R := h.monoT E.ext.sub E.ext.pre
section
variable {P : Params} {c : FrameCx} {m : Str → Option Value} {X : Led} {w : Wd} {H : MH} {h h' : Heap}
theorem RepS.stays (S : RepS c P m X H w h) : c.base.StaysIn h := fun b o e => S.fr.keep b o (S.below.stays b o e)
theorem RepS.kin {K : Frag} (S : RepS c P m X H w h) (k : K.In c.base) : K.In w.g := k.keeps S.below.stays
theorem RepS.heap (S : RepS c P m X H w h) (F : Fr w.g c.L h' m) (N : News w.g c.L h' (w.all X)) : RepS c P m X H w h' := ⟨S.below,S.dic,F,N,S.mr,S.nd,S.sp,S.ap⟩
theorem RepS.newI (S : RepS c P m X H w h) {a : Addr} {o : Obj} (F : Fr w.g c.L h' m) (N : News w.g c.L h' ((a,o) :: w.all X)) (hf : ∀ q ∈ w.all X,q.1 ≠ a) :
    RepS c P m X H { w with I := (a,o) :: w.I } h' ∧ Ext w { w with I := (a,o) :: w.I } where
  left := ⟨S.below,S.dic,F,N,S.mr.mono fun q hq => .tail _ hq,S.nd,fun e he q hq => by
    rcases List.mem_cons.mp (List.cons_append ▸ hq) with rfl | hq
    · exact fun z => hf e (by simp [he]) z.symm
    · exact S.sp e he q hq,fun q hq x hx => by
    rcases List.mem_cons.mp hq with rfl | hq
    · exact (hf x (by simp [hx])).symm
    · exact S.ap q hq x hx⟩
  right := ⟨fun q hq _ => .tail _ hq,fun _ _ h => h⟩
theorem RepS.newM (S : RepS c P m X H w h) {a : Addr} {vs : List Value} {n : Nat} {l : List AV} (F : Fr w.g c.L h' m) (N : News w.g c.L h' ((a,lstO vs n) :: w.all X)) (hf : ∀ q ∈ w.all X,q.1 ≠ a) (hc : Rs P w.I [] l vs) :
    RepS c P m X (H ++ [l]) { w with Mo := w.Mo ++ [(a,lstO vs n)] } h' ∧ Ext w { w with Mo := w.Mo ++ [(a,lstO vs n)] } where
  left := ⟨S.below,S.dic,F,fun q hq => N q (by simp only [List.mem_append,List.mem_cons,List.not_mem_nil,or_false] at hq ⊢; rcases hq with h | (h | h) | h <;> simp [h]),S.mr.app (.cons a n hc (.nil S.mr.tabs)),by
      rw [Wd.xs,List.map_append,List.nodup_append]
      refine ⟨S.nd,by simp,fun x hx y hy => ?_⟩
      rw [List.map_singleton,List.mem_singleton] at hy
      obtain ⟨q,hq,rfl⟩ := List.mem_map.mp hx
      exact hy ▸ hf q (by simp [hq]),fun e he q hq => by
      rcases List.mem_append.mp he with he | he
      · exact S.sp e he q hq
      · rw [List.mem_singleton.mp he]; exact hf q (by rcases List.mem_append.mp hq with h | h <;> simp [h]),S.ap⟩
  right := ⟨fun q hq _ => hq,fun i a h => by
      rw [Wd.xs,List.map_append,List.getElem?_append_left (List.getElem?_eq_some_iff.mp h).1]; exact h⟩
end
inductive FL where | next | brk | cont | ret (v : AV)
noncomputable abbrev Con := List AV → MH → (AV → MH → Prop) → (Nat → MH → Prop) → Prop
noncomputable abbrev EF := IE → Loc → MH → (AV → MH → Prop) → (Nat → MH → Prop) → Prop
noncomputable abbrev SF := List IS → Loc → MH → (FL → Loc → MH → Prop) → (Nat → MH → Prop) → Prop
noncomputable def brB (b : Bool) (p q : Prop) : Prop := (b = true → p) ∧ (b = false → q)
noncomputable def isB (v : AV) (k : Bool → Prop) : Prop := match v with | .bool b => k b | _ => False
noncomputable def view (H : MH) : AV → AV
  | .mu i => (match H[i]? with | some xs => .lst xs | none => .mu i)
  | v => v
noncomputable def binI : Operator → Int → Int → Option (Int × Prop)
  | .Add,a,b => some (a + b,True)
  | .Sub,a,b => some (a - b,True)
  | .Mult,a,b => some (a * b,IntMulOk a b)
  | .Mod,a,b => some (a.fmod b,b ≠ 0)
  | .FloorDiv,a,b => some (a.fdiv b,b ≠ 0 ∧ b.natAbs.log2 < 9000)
  | .LShift,a,b => some (a * 2 ^ b.toNat,0 ≤ b ∧ (Builtin.Int.intBits a : Int) + b ≤ 2 ^ 27)
  | .RShift,a,b => some (a.fdiv (2 ^ b.toNat),0 ≤ b)
  | .BitAnd,a,b => some (Builtin.bitAnd a b,True)
  | .Pow,a,b => some (a ^ b.toNat,0 ≤ b ∧ b ≤ 1000000 ∧ a.natAbs < 2 ^ 64)
  | _,_,_ => none
noncomputable def binV (op : Operator) (a b : AV) (Q : AV → Prop) : Prop := match a,b with
  | .int i,.int j => (match binI op i j with | some (k,p) => p ∧ Q (.int k) | none => False)
  | .str x,.str y => (match op with | .Add => x.length + y.length ≤ sizeLine ∧ Q (.str (x ++ y)) | _ => False)
  | .str x,.int n => (match op with | .Mult => (0 ≤ n ∧ n ≤ 1000 ∧ x.length ≤ 16) ∧ Q (.str (Txt.mul x n)) | _ => False)
  | .lst xs,.lst ys => (match op with | .Add => xs.length + ys.length ≤ 100000 ∧ Q (.lst (xs ++ ys)) | _ => False)
  | _,_ => False
inductive IsPy : List AV → List PyData → Prop
  | nil : IsPy [] []
  | none {r R} : IsPy r R → IsPy (.none :: r) (.none :: R)
  | bool {r R} (b) : IsPy r R → IsPy (.bool b :: r) (.bool b :: R)
  | int {r R} (n) : IsPy r R → IsPy (.int n :: r) (.int n :: R)
  | str {r R} (x) : IsPy r R → IsPy (.str x :: r) (.str x :: R)
  | tup {r R} {ys ds} : IsPy ys ds → IsPy r R → IsPy (.tup ys :: r) (.tuple ds :: R)
  | lst {r R} {ys ds} : IsPy ys ds → IsPy r R → IsPy (.lst ys :: r) (.list ds :: R)
noncomputable def cmpI : CmpOp → Int → Int → Option Bool
  | .Eq,a,b => some (decide (a = b))
  | .NotEq,a,b => some (!decide (a = b))
  | .Lt,a,b => some (decide (a < b))
  | .LtE,a,b => some (decide (a ≤ b))
  | .Gt,a,b => some (decide (b < a))
  | .GtE,a,b => some (decide (b ≤ a))
  | _,_,_ => none
noncomputable def cmpS : CmpOp → Str → Str → Option Bool
  | .Eq,a,b => some (decide (a = b))
  | .NotEq,a,b => some (!decide (a = b))
  | _,_,_ => none
noncomputable def cmpB : CmpOp → Bool → Bool → Option Bool
  | .Eq,a,b => some (a == b)
  | .NotEq,a,b => some (a != b)
  | _,_,_ => none
noncomputable def strsOf : List AV → Option (List Str)
  | [] => some []
  | .str y :: r => (match strsOf r with | some l => some (y :: l) | none => none)
  | _ => none
noncomputable def isNone : AV → Option Bool
  | .none => some true
  | .bool _ | .int _ | .str _ | .inst _ _ | .tup _ | .lst _ => some false
  | _ => none
noncomputable def optP {α : Type} (o : Option α) (k : α → Prop) : Prop := match o with | some a => k a | none => False
noncomputable def inO (op : CmpOp) (x : Str) (l : List Str) (k : Bool → Prop) : Prop := match op with | .In => k (l.any (· == x)) | .NotIn => k (!(l.any (· == x))) | _ => False
noncomputable def isO (op : CmpOp) (c : Bool) (k : Bool → Prop) : Prop := match op with | .Is => k c | .IsNot => k (!c) | _ => False
noncomputable def eqO (op : CmpOp) (c : Bool) (k : Bool → Prop) : Prop := match op with | .Eq => k c | .NotEq => k (!c) | _ => False
noncomputable def cmpV (op : CmpOp) (a b : AV) (k : Bool → Prop) : Prop := match b with
  | .none => optP (isNone a) fun c => isO op c k
  | .int j => (match a with | .int i => optP (cmpI op i j) k | _ => False)
  | .str y => (match a with | .str x => optP (cmpS op x y) k | _ => False)
  | .bool y => (match a with | .bool x => optP (cmpB op x y) k | _ => False)
  | .bytes y => (match a with | .bytes x => eqO op (decide (x = y)) k | _ => False)
  | .lst ys => (match a with
    | .str x => optP (strsOf ys) fun l => inO op x l k
    | .lst xs => ∃ d e,IsPy xs d ∧ IsPy ys e ∧ PySem.SeqAt.shaped (.list d) = true ∧ PySem.SeqAt.shaped (.list e) = true ∧ eqO op (PyData.eqvAll d e) k
    | _ => False)
  | .tup ys => (match a with
    | .str x => optP (strsOf ys) fun l => inO op x l k
    | .tup xs => ∃ d e,IsPy xs d ∧ IsPy ys e ∧ PySem.SeqAt.shaped (.tuple d) = true ∧ PySem.SeqAt.shaped (.tuple e) = true ∧ eqO op (PyData.eqvAll d e) k
    | _ => False)
  | _ => False
theorem cmr1 {op : CmpOp} {a : AV} {k : Bool → Prop} : cmpV op a .none k = optP (isNone a) fun c => isO op c k := rfl
theorem cmr2 {op : CmpOp} {i j : Int} {k : Bool → Prop} : cmpV op (.int i) (.int j) k = optP (cmpI op i j) k := rfl
theorem cmr3 {op : CmpOp} {i j : Str} {k : Bool → Prop} : cmpV op (.str i) (.str j) k = optP (cmpS op i j) k := rfl
theorem cmr4 {op : CmpOp} {i j : Bool} {k : Bool → Prop} : cmpV op (.bool i) (.bool j) k = optP (cmpB op i j) k := rfl
theorem cmr5 {op : CmpOp} {i j : List Int} {k : Bool → Prop} : cmpV op (.bytes i) (.bytes j) k = eqO op (decide (i = j)) k := rfl
theorem cmr6 {op : CmpOp} {x : Str} {ys : List AV} {k : Bool → Prop} : cmpV op (.str x) (.lst ys) k = optP (strsOf ys) fun l => inO op x l k := rfl
theorem cmr7 {op : CmpOp} {x : Str} {ys : List AV} {k : Bool → Prop} : cmpV op (.str x) (.tup ys) k = optP (strsOf ys) fun l => inO op x l k := rfl
theorem cmr8 {op : CmpOp} {xs ys : List AV} {k : Bool → Prop} : cmpV op (.lst xs) (.lst ys) k = ∃ d e,IsPy xs d ∧ IsPy ys e ∧ PySem.SeqAt.shaped (.list d) = true ∧ PySem.SeqAt.shaped (.list e) = true ∧ eqO op (PyData.eqvAll d e) k := rfl
theorem cmr9 {op : CmpOp} {xs ys : List AV} {k : Bool → Prop} : cmpV op (.tup xs) (.tup ys) k = ∃ d e,IsPy xs d ∧ IsPy ys e ∧ PySem.SeqAt.shaped (.tuple d) = true ∧ PySem.SeqAt.shaped (.tuple e) = true ∧ eqO op (PyData.eqvAll d e) k := rfl
theorem ino1 {x : Str} {l : List Str} {k : Bool → Prop} : inO .In x l k = k (l.any (· == x)) := rfl
theorem ino2 {x : Str} {l : List Str} {k : Bool → Prop} : inO .NotIn x l k = k (!(l.any (· == x))) := rfl
theorem iso1 {c : Bool} {k : Bool → Prop} : isO .Is c k = k c := rfl
theorem iso2 {c : Bool} {k : Bool → Prop} : isO .IsNot c k = k (!c) := rfl
theorem eqo1 {c : Bool} {k : Bool → Prop} : eqO .Eq c k = k c := rfl
theorem eqo2 {c : Bool} {k : Bool → Prop} : eqO .NotEq c k = k (!c) := rfl
theorem cmi1 {a b : Int} : cmpI .Eq a b = some (decide (a = b)) := rfl
theorem cmi2 {a b : Int} : cmpI .NotEq a b = some (!decide (a = b)) := rfl
theorem cmi3 {a b : Int} : cmpI .Lt a b = some (decide (a < b)) := rfl
theorem cmi4 {a b : Int} : cmpI .LtE a b = some (decide (a ≤ b)) := rfl
theorem cmi5 {a b : Int} : cmpI .Gt a b = some (decide (b < a)) := rfl
theorem cmi6 {a b : Int} : cmpI .GtE a b = some (decide (b ≤ a)) := rfl
theorem bii1 {a b : Int} : binI .Add a b = some (a + b,True) := rfl
theorem bii2 {a b : Int} : binI .Sub a b = some (a - b,True) := rfl
theorem bii3 {a b : Int} : binI .Mult a b = some (a * b,IntMulOk a b) := rfl
theorem bii4 {a b : Int} : binI .Mod a b = some (a.fmod b,b ≠ 0) := rfl
theorem bii5 {a b : Int} : binI .FloorDiv a b = some (a.fdiv b,b ≠ 0 ∧ b.natAbs.log2 < 9000) := rfl
theorem bii6 {a b : Int} : binI .LShift a b = some (a * 2 ^ b.toNat,0 ≤ b ∧ (Builtin.Int.intBits a : Int) + b ≤ 2 ^ 27) := rfl
theorem bii7 {a b : Int} : binI .RShift a b = some (a.fdiv (2 ^ b.toNat),0 ≤ b) := rfl
theorem bii8 {a b : Int} : binI .BitAnd a b = some (Builtin.bitAnd a b,True) := rfl
theorem bii9 {a b : Int} : binI .Pow a b = some (a ^ b.toNat,0 ≤ b ∧ b ≤ 1000000 ∧ a.natAbs < 2 ^ 64) := rfl
theorem biv1 {op : Operator} {i j : Int} {Q : AV → Prop} : binV op (.int i) (.int j) Q = (match binI op i j with | some (k,p) => p ∧ Q (.int k) | none => False) := rfl
theorem biv2 {x y : Str} {Q : AV → Prop} : binV .Add (.str x) (.str y) Q = (x.length + y.length ≤ sizeLine ∧ Q (.str (x ++ y))) := rfl
theorem biv3 {x : Str} {n : Int} {Q : AV → Prop} : binV .Mult (.str x) (.int n) Q = ((0 ≤ n ∧ n ≤ 1000 ∧ x.length ≤ 16) ∧ Q (.str (Txt.mul x n))) := rfl
theorem biv4 {xs ys : List AV} {Q : AV → Prop} : binV .Add (.lst xs) (.lst ys) Q = (xs.length + ys.length ≤ 100000 ∧ Q (.lst (xs ++ ys))) := rfl
noncomputable def idxV (o i : AV) (Q : AV → Prop) : Prop := match o,i with
  | .lst xs,.int k => (0 ≤ k ∧ k < xs.length ∧ xs.length ≤ 100000) ∧ Q (xs.getD k.toNat .none)
  | .tup xs,.int k => (0 ≤ k ∧ k < xs.length ∧ xs.length ≤ 100000) ∧ Q (xs.getD k.toNat .none)
  | .str x,.int k => (0 ≤ k ∧ k < x.length ∧ x.length ≤ 100000) ∧ Q (.str (Txt.item x k))
  | _,_ => False
noncomputable def partI : Option AV → Option (Option Int) | none => some none | some (.int a) => some (some a) | _ => none
noncomputable def takeV (xs : List AV) (a b : Option Int) (Q : AV → Prop) : Prop := match a,b with | none,some b => (0 ≤ b ∧ b ≤ 100000 ∧ xs.length ≤ 1000000) ∧ Q (.lst (xs.take b.toNat)) | _,_ => False
noncomputable def dropV (xs : List AV) (a b : Option Int) (Q : AV → Prop) : Prop := match a,b with | some a,none => (0 ≤ a ∧ a ≤ 100000 ∧ xs.length ≤ 1000000) ∧ Q (.lst (xs.drop a.toNat)) | a,b => takeV xs a b Q
noncomputable def cutV (x : Str) (a b : Option Int) (Q : AV → Prop) : Prop := match a,b with
  | none,some b => (0 ≤ b ∧ b ≤ 100000 ∧ x.length ≤ 100000) ∧ Q (.str (Txt.slice x none (some b)))
  | some a,none => (0 ≤ a ∧ a ≤ 100000 ∧ x.length ≤ 100000) ∧ Q (.str (Txt.slice x (some a) none))
  | some a,some b => (0 ≤ a ∧ a ≤ 100000 ∧ 0 ≤ b ∧ b ≤ 100000 ∧ x.length ≤ 100000) ∧ Q (.str (Txt.slice x (some a) (some b)))
  | _,_ => False
noncomputable def sliceV (o : AV) (lo hi : Option AV) (Q : AV → Prop) : Prop := match o with
  | .lst xs => optP (partI lo) fun a => optP (partI hi) fun b => dropV xs a b Q
  | .ext xs => optP (partI lo) fun a => optP (partI hi) fun b => takeV xs a b Q
  | .str x => optP (partI lo) fun a => optP (partI hi) fun b => cutV x a b Q
  | _ => False
theorem idr1 {xs : List AV} {k : Int} {Q : AV → Prop} : idxV (.lst xs) (.int k) Q = ((0 ≤ k ∧ k < xs.length ∧ xs.length ≤ 100000) ∧ Q (xs.getD k.toNat .none)) := rfl
theorem idr2 {xs : List AV} {k : Int} {Q : AV → Prop} : idxV (.tup xs) (.int k) Q = ((0 ≤ k ∧ k < xs.length ∧ xs.length ≤ 100000) ∧ Q (xs.getD k.toNat .none)) := rfl
theorem idr3 {x : Str} {k : Int} {Q : AV → Prop} : idxV (.str x) (.int k) Q = ((0 ≤ k ∧ k < x.length ∧ x.length ≤ 100000) ∧ Q (.str (Txt.item x k))) := rfl
theorem slr1 {xs : List AV} {b : Int} {Q : AV → Prop} : sliceV (.lst xs) none (some (.int b)) Q = ((0 ≤ b ∧ b ≤ 100000 ∧ xs.length ≤ 1000000) ∧ Q (.lst (xs.take b.toNat))) := rfl
theorem slr2 {xs : List AV} {b : Int} {Q : AV → Prop} : sliceV (.ext xs) none (some (.int b)) Q = ((0 ≤ b ∧ b ≤ 100000 ∧ xs.length ≤ 1000000) ∧ Q (.lst (xs.take b.toNat))) := rfl
theorem slr3 {xs : List AV} {a : Int} {Q : AV → Prop} : sliceV (.lst xs) (some (.int a)) none Q = ((0 ≤ a ∧ a ≤ 100000 ∧ xs.length ≤ 1000000) ∧ Q (.lst (xs.drop a.toNat))) := rfl
theorem slr4 {x : Str} {b : Int} {Q : AV → Prop} : sliceV (.str x) none (some (.int b)) Q = ((0 ≤ b ∧ b ≤ 100000 ∧ x.length ≤ 100000) ∧ Q (.str (Txt.slice x none (some b)))) := rfl
theorem slr5 {x : Str} {a : Int} {Q : AV → Prop} : sliceV (.str x) (some (.int a)) none Q = ((0 ≤ a ∧ a ≤ 100000 ∧ x.length ≤ 100000) ∧ Q (.str (Txt.slice x (some a) none))) := rfl
theorem slr6 {x : Str} {a b : Int} {Q : AV → Prop} : sliceV (.str x) (some (.int a)) (some (.int b)) Q = ((0 ≤ a ∧ a ≤ 100000 ∧ 0 ≤ b ∧ b ≤ 100000 ∧ x.length ≤ 100000) ∧ Q (.str (Txt.slice x (some a) (some b)))) := rfl
noncomputable def textOf (n : Int) : Str := Str.ofString (toString n)
noncomputable def bfI (b : BF) (n : Int) (Q : AV → Prop) : Prop := match b with | .abs => Q (.int n.natAbs) | .int => Q (.int n) | .str => (0 ≤ n ∧ n < 1000000) ∧ Q (.str (textOf n)) | .range => Q (.rng 0 n 1) | _ => False
noncomputable def bfB (b : BF) (c : Bool) (Q : AV → Prop) : Prop := match b with | .int => Q (.int (if c then 1 else 0)) | _ => False
noncomputable def bfS (b : BF) (x : Str) (Q : AV → Prop) : Prop := match b with | .int => ∃ n : Nat,n < 100 ∧ x = textOf n ∧ Q (.int n) | .len => x.length ≤ 100000 ∧ Q (.int x.length) | _ => False
noncomputable def bfL (b : BF) (xs : List AV) (Q : AV → Prop) : Prop := match b with
  | .len => xs.length ≤ 100000 ∧ Q (.int xs.length)
  | .sum => ∃ ns : List Int,xs = ns.map .int ∧ ns.length ≤ 100000 ∧ Q (.int ns.sum)
  | .bytes => ∃ ns : List Int,xs = ns.map .int ∧ (∀ n ∈ ns,0 ≤ n ∧ n < 256) ∧ ns.length ≤ 100000 ∧ Q (.bytes ns)
  | _ => False
noncomputable def bfN (b : BF) (n : Nat) (Q : AV → Prop) : Prop := match b with | .len => n ≤ 100000 ∧ Q (.int n) | _ => False
noncomputable def bf1 (b : BF) (a : AV) (Q : AV → Prop) : Prop := match a with
  | .int n => bfI b n Q
  | .bool c => bfB b c Q
  | .str x => bfS b x Q
  | .lst xs => bfL b xs Q
  | .tup xs => bfN b xs.length Q
  | .bytes ns => bfN b ns.length Q
  | _ => False
noncomputable def avI : AV → Option Int | .int n => some n | _ => none
noncomputable def bfR (b : BF) (k : Prop) : Prop := match b with | .range => k | _ => False
noncomputable def bfV (b : BF) (args : List AV) (Q : AV → Prop) : Prop := match args with
  | [a] => bf1 b a Q
  | [a,c] => bfR b (optP (avI a) fun a => optP (avI c) fun c => Q (.rng a c 1))
  | [a,c,d] => bfR b (optP (avI a) fun a => optP (avI c) fun c => optP (avI d) fun d => (1 ≤ d ∧ d ≤ 16) ∧ Q (.rng a c d))
  | _ => False
theorem bfr1 {n : Int} {Q : AV → Prop} : bfV .abs [.int n] Q = Q (.int n.natAbs) := rfl
theorem bfr2 {n : Int} {Q : AV → Prop} : bfV .int [.int n] Q = Q (.int n) := rfl
theorem bfr3 {b : Bool} {Q : AV → Prop} : bfV .int [.bool b] Q = Q (.int (if b then 1 else 0)) := rfl
theorem bfr4 {x : Str} {Q : AV → Prop} : bfV .int [.str x] Q = ∃ n : Nat,n < 100 ∧ x = textOf n ∧ Q (.int n) := rfl
theorem bfr5 {xs : List AV} {Q : AV → Prop} : bfV .len [.lst xs] Q = (xs.length ≤ 100000 ∧ Q (.int xs.length)) := rfl
theorem bfr6 {xs : List AV} {Q : AV → Prop} : bfV .len [.tup xs] Q = (xs.length ≤ 100000 ∧ Q (.int xs.length)) := rfl
theorem bfr7 {xs : Str} {Q : AV → Prop} : bfV .len [.str xs] Q = (xs.length ≤ 100000 ∧ Q (.int xs.length)) := rfl
theorem bfr8 {xs : List Int} {Q : AV → Prop} : bfV .len [.bytes xs] Q = (xs.length ≤ 100000 ∧ Q (.int xs.length)) := rfl
theorem bfr9 {n : Int} {Q : AV → Prop} : bfV .str [.int n] Q = ((0 ≤ n ∧ n < 1000000) ∧ Q (.str (textOf n))) := rfl
theorem bfr10 {xs : List AV} {Q : AV → Prop} : bfV .sum [.lst xs] Q = ∃ ns : List Int,xs = ns.map .int ∧ ns.length ≤ 100000 ∧ Q (.int ns.sum) := rfl
theorem bfr11 {n : Int} {Q : AV → Prop} : bfV .range [.int n] Q = Q (.rng 0 n 1) := rfl
theorem bfr12 {a b : Int} {Q : AV → Prop} : bfV .range [.int a,.int b] Q = Q (.rng a b 1) := rfl
theorem bfr13 {a b c : Int} {Q : AV → Prop} : bfV .range [.int a,.int b,.int c] Q = ((1 ≤ c ∧ c ≤ 16) ∧ Q (.rng a b c)) := rfl
theorem bfr14 {xs : List AV} {Q : AV → Prop} : bfV .bytes [.lst xs] Q = ∃ ns : List Int,xs = ns.map .int ∧ (∀ n ∈ ns,0 ≤ n ∧ n < 256) ∧ ns.length ≤ 100000 ∧ Q (.bytes ns) := rfl
noncomputable def smOk (s : SM) (o : AV) : Prop := match o with
  | .mu _ => (match s with | .append | .extend => True | _ => False)
  | .lst _ => (match s with | .index => True | _ => False)
  | .str _ => (match s with | .split | .lower | .upper | .find | .join => True | _ => False)
  | _ => False
theorem smo1 {i : Nat} : smOk .append (.mu i) = True := rfl
theorem smo2 {i : Nat} : smOk .extend (.mu i) = True := rfl
theorem smo3 {x : List AV} : smOk .index (.lst x) = True := rfl
theorem smo4 {x : Str} : smOk .split (.str x) = True := rfl
theorem smo5 {x : Str} : smOk .lower (.str x) = True := rfl
theorem smo6 {x : Str} : smOk .upper (.str x) = True := rfl
theorem smo7 {x : Str} : smOk .find (.str x) = True := rfl
theorem smo8 {x : Str} : smOk .join (.str x) = True := rfl
noncomputable def smS0 (s : SM) (x : Str) (Q : AV → Prop) : Prop := match s with
  | .split => x.length ≤ 10000 ∧ Q (.lst ((Txt.words x).map .str))
  | .lower => x.length ≤ 10000 ∧ Q (.str (Txt.lower x))
  | .upper => x.length ≤ 10000 ∧ Q (.str (Txt.upper x))
  | _ => False
noncomputable def avS : AV → Option Str | .str n => some n | _ => none
noncomputable def avL : AV → Option (List AV) | .lst n => some n | _ => none
noncomputable def smS1 (s : SM) (x : Str) (a b : AV) (Q : AV → Prop) : Prop := match s with
  | .find => optP (avS a) fun y => Q (.int (Txt.find x y))
  | .join => optP (avL b) fun xs => optP (strsOf xs) fun ys => (((ys.map (·.length)).sum + ys.length ≤ 1048576) ∧ x.length ≤ 16) ∧ Q (.str (Txt.join x ys))
  | _ => False
noncomputable def smL (s : SM) (xs : List AV) (a : AV) (Q : AV → Prop) : Prop := match s with
  | .index => optP (avS a) fun x => optP (strsOf xs) fun ys => (x ∈ ys ∧ ys.length ≤ 100000) ∧ Q (.int (ys.idxOf x))
  | _ => False
noncomputable def smM (s : SM) (i : Nat) (a : AV) (H : MH) (Q : AV → MH → Prop) : Prop := match s with
  | .append => optP H[i]? fun xs => xs.length ≤ 100000 ∧ (∀ (P : Params) (I : Led) (l : List Addr) (V : Value),RepV P I l a V → RepV P I [] a V) ∧ Q .none (H.set i (xs ++ [a]))
  | .extend => optP (avL a) fun ys => optP H[i]? fun xs => (xs.length ≤ 100000 ∧ ys.length ≤ 100000 ∧ ys ≠ []) ∧ (∀ (P : Params) (I : Led) (l : List Addr) (Vs : List Value),Rs P I l ys Vs → Rs P I [] ys Vs) ∧ Q .none (H.set i (xs ++ ys))
  | _ => False
noncomputable def smV (s : SM) (o : AV) (args : List AV) (H : MH) (Q : AV → MH → Prop) : Prop := match args with
  | [] => (match o with | .str x => smS0 s x fun v => Q v H | _ => False)
  | [a] => (match o with | .str x => smS1 s x a (view H a) fun v => Q v H | .lst xs => smL s xs a fun v => Q v H | .mu i => smM s i a H Q | _ => False)
  | _ => False
theorem smr1 {x : Str} {H : MH} {Q : AV → MH → Prop} : smV .split (.str x) [] H Q = (x.length ≤ 10000 ∧ Q (.lst ((Txt.words x).map .str)) H) := rfl
theorem smr2 {x : Str} {H : MH} {Q : AV → MH → Prop} : smV .lower (.str x) [] H Q = (x.length ≤ 10000 ∧ Q (.str (Txt.lower x)) H) := rfl
theorem smr3 {x : Str} {H : MH} {Q : AV → MH → Prop} : smV .upper (.str x) [] H Q = (x.length ≤ 10000 ∧ Q (.str (Txt.upper x)) H) := rfl
theorem smr4 {x y : Str} {H : MH} {Q : AV → MH → Prop} : smV .find (.str x) [.str y] H Q = Q (.int (Txt.find x y)) H := rfl
theorem smr5 {x : Str} {a : AV} {H : MH} {Q : AV → MH → Prop} : smV .join (.str x) [a] H Q = optP (avL (view H a)) fun xs => optP (strsOf xs) fun ys => (((ys.map (·.length)).sum + ys.length ≤ 1048576) ∧ x.length ≤ 16) ∧ Q (.str (Txt.join x ys)) H := rfl
theorem avl {xs : List AV} : avL (.lst xs) = some xs := rfl
theorem smr6 {x : Str} {xs : List AV} {H : MH} {Q : AV → MH → Prop} : smV .index (.lst xs) [.str x] H Q = optP (strsOf xs) fun ys => (x ∈ ys ∧ ys.length ≤ 100000) ∧ Q (.int (ys.idxOf x)) H := rfl
theorem smr7 {i : Nat} {v : AV} {H : MH} {Q : AV → MH → Prop} : smV .append (.mu i) [v] H Q = (match H[i]? with | some xs => xs.length ≤ 100000 ∧ (∀ (P : Params) (I : Led) (l : List Addr) (V : Value),RepV P I l v V → RepV P I [] v V) ∧ Q .none (H.set i (xs ++ [v])) | none => False) := by show optP H[i]? _ = _; cases H[i]? <;> rfl
theorem smr8 {i : Nat} {ys : List AV} {H : MH} {Q : AV → MH → Prop} : smV .extend (.mu i) [.lst ys] H Q = (match H[i]? with | some xs => (xs.length ≤ 100000 ∧ ys.length ≤ 100000 ∧ ys ≠ []) ∧ (∀ (P : Params) (I : Led) (l : List Addr) (Vs : List Value),Rs P I l ys Vs → Rs P I [] ys Vs) ∧ Q .none (H.set i (xs ++ ys)) | none => False) := by show optP H[i]? _ = _; cases H[i]? <;> rfl
noncomputable def evs (f : EF) : List IE → Loc → MH → (List AV → MH → Prop) → (Nat → MH → Prop) → Prop
  | [],_,H,Q,_ => Q [] H
  | e :: r,l,H,Q,X => f e l H (fun v H1 => evs f r l H1 (fun vs H2 => Q (v :: vs) H2) X) X
noncomputable def evo (f : EF) : Option IE → Loc → MH → (Option AV → MH → Prop) → (Nat → MH → Prop) → Prop
  | none,_,H,Q,_ => Q none H
  | some e,l,H,Q,X => f e l H (fun v H1 => Q (some v) H1) X
noncomputable def ands (f : EF) : List IE → Loc → MH → (AV → MH → Prop) → (Nat → MH → Prop) → Prop
  | [],_,_,_,_ => False
  | [e],l,H,Q,X => f e l H (fun v H1 => isB v fun b => Q (.bool b) H1) X
  | e :: r,l,H,Q,X => f e l H (fun v H1 => isB v fun b => brB b (ands f r l H1 Q X) (Q (.bool false) H1)) X
noncomputable def ors (f : EF) : List IE → Loc → MH → (AV → MH → Prop) → (Nat → MH → Prop) → Prop
  | [],_,_,_,_ => False
  | [e],l,H,Q,X => f e l H (fun v H1 => isB v fun b => Q (.bool b) H1) X
  | e :: r,l,H,Q,X => f e l H (fun v H1 => isB v fun b => brB b (Q (.bool true) H1) (ors f r l H1 Q X)) X
theorem evr1 {f : EF} {l : Loc} {H : MH} {Q : List AV → MH → Prop} {X : Nat → MH → Prop} : evs f [] l H Q X = Q [] H := rfl
theorem evr2 {f : EF} {e : IE} {r : List IE} {l : Loc} {H : MH} {Q : List AV → MH → Prop} {X : Nat → MH → Prop} : evs f (e :: r) l H Q X = f e l H (fun v H1 => evs f r l H1 (fun vs H2 => Q (v :: vs) H2) X) X := rfl
theorem eor1 {f : EF} {l : Loc} {H : MH} {Q : Option AV → MH → Prop} {X : Nat → MH → Prop} : evo f none l H Q X = Q none H := rfl
theorem eor2 {f : EF} {e : IE} {l : Loc} {H : MH} {Q : Option AV → MH → Prop} {X : Nat → MH → Prop} : evo f (some e) l H Q X = f e l H (fun v H1 => Q (some v) H1) X := rfl
theorem anr1 {f : EF} {e : IE} {l : Loc} {H : MH} {Q : AV → MH → Prop} {X : Nat → MH → Prop} : ands f [e] l H Q X = f e l H (fun v H1 => isB v fun b => Q (.bool b) H1) X := rfl
theorem anr2 {f : EF} {e e2 : IE} {r : List IE} {l : Loc} {H : MH} {Q : AV → MH → Prop} {X : Nat → MH → Prop} : ands f (e :: e2 :: r) l H Q X = f e l H (fun v H1 => isB v fun b => brB b (ands f (e2 :: r) l H1 Q X) (Q (.bool false) H1)) X := rfl
theorem orr1 {f : EF} {e : IE} {l : Loc} {H : MH} {Q : AV → MH → Prop} {X : Nat → MH → Prop} : ors f [e] l H Q X = f e l H (fun v H1 => isB v fun b => Q (.bool b) H1) X := rfl
theorem orr2 {f : EF} {e e2 : IE} {r : List IE} {l : Loc} {H : MH} {Q : AV → MH → Prop} {X : Nat → MH → Prop} : ors f (e :: e2 :: r) l H Q X = f e l H (fun v H1 => isB v fun b => brB b (Q (.bool true) H1) (ors f (e2 :: r) l H1 Q X)) X := rfl
theorem isr {b : Bool} {k : Bool → Prop} : isB (.bool b) k = k b := rfl
theorem opr {α : Type} {a : α} {k : α → Prop} : optP (some a) k = k a := rfl
noncomputable def itemsOf : AV → Option (List AV)
  | .lst xs => some xs
  | .tup xs => some xs
  | .str x => some (x.cps.toList.map fun n => .str ⟨#[n]⟩)
  | .bytes ns => some (ns.map .int)
  | .rng lo hi st => if 1 ≤ st ∧ st ≤ 16 ∧ -1000000 ≤ lo ∧ lo ≤ 1000000 ∧ -1000000 ≤ hi ∧ hi ≤ 1000000 then some ((List.range (Builtin.Range.rangeSize lo hi st).toNat).map fun (i : Nat) => AV.int (lo + (i : Int) * st)) else none
  | _ => none
noncomputable def comps (f : EF) (elt : IE) (cond : Option IE) (fr : Loc) : List AV → List AV → MH → (List AV → MH → Prop) → Prop
  | [],acc,H,Q => Q acc H
  | v :: vs,acc,H,Q => (match cond with
      | none => f elt (some v :: fr) H (fun y H1 => comps f elt cond fr vs (acc ++ [y]) H1 Q) (fun _ _ => False)
      | some t => f t (some v :: fr) H (fun b H1 => isB b fun b => brB b (f elt (some v :: fr) H1 (fun y H2 => comps f elt cond fr vs (acc ++ [y]) H2 Q) (fun _ _ => False)) (comps f elt cond fr vs acc H1 Q)) (fun _ _ => False))
theorem cor1 {f : EF} {elt : IE} {cond : Option IE} {fr : Loc} {acc : List AV} {H : MH} {Q : List AV → MH → Prop} : comps f elt cond fr [] acc H Q = Q acc H := rfl
theorem cor2 {f : EF} {elt : IE} {fr : Loc} {v : AV} {vs acc : List AV} {H : MH} {Q : List AV → MH → Prop} : comps f elt none fr (v :: vs) acc H Q = f elt (some v :: fr) H (fun y H1 => comps f elt none fr vs (acc ++ [y]) H1 Q) (fun _ _ => False) := rfl
theorem cor3 {f : EF} {elt t : IE} {fr : Loc} {v : AV} {vs acc : List AV} {H : MH} {Q : List AV → MH → Prop} : comps f elt (some t) fr (v :: vs) acc H Q = f t (some v :: fr) H (fun b H1 => isB b fun b => brB b (f elt (some v :: fr) H1 (fun y H2 => comps f elt (some t) fr vs (acc ++ [y]) H2 Q) (fun _ _ => False)) (comps f elt (some t) fr vs acc H1 Q)) (fun _ _ => False) := rfl
noncomputable def mcls : Nat → Nat
  | 502 => 587
  | 509 => 587
  | _ => 196
noncomputable def alls : List (Option AV) → Option (List AV)
  | [] => some []
  | some v :: r => (match alls r with | some l => some (v :: l) | none => none)
  | none :: _ => none
noncomputable def enumL : Nat → List AV → List AV
  | _,[] => []
  | i,v :: r => .tup [.int i,v] :: enumL (i + 1) r
noncomputable def stepE (T : Nat → Option Con) (fq f : EF) : EF := fun e l H Q X => match e with
  | .c v => Q v H
  | .loc k => (match l[k]? with | some (some v) => Q v H | _ => False)
  | .g i => (match gtab[i]? with | some (_,v) => Q v H | none => False)
  | .bin op a b => f a l H (fun x H1 => f b l H1 (fun y H2 => binV op (view H2 x) (view H2 y) fun v => Q v H2) X) X
  | .cmp a op b => f a l H (fun x H1 => f b l H1 (fun y H2 => cmpV op (view H2 x) (view H2 y) fun c => Q (.bool c) H2) X) X
  | .chain a o1 b o2 c => f a l H (fun x H1 => f b l H1 (fun y H2 => cmpV o1 (view H2 x) (view H2 y) fun k => brB k (f c l H2 (fun z H3 => cmpV o2 (view H3 y) (view H3 z) fun k2 => Q (.bool k2) H3) X) (Q (.bool false) H2)) X) X
  | .not a => f a l H (fun v H1 => isB v fun b => Q (.bool (!b)) H1) X
  | .and es => ands f es l H Q X
  | .or es => ors f es l H Q X
  | .ife t a b => f t l H (fun v H1 => isB v fun c => brB c (f a l H1 Q X) (f b l H1 Q X)) X
  | .call g es => evs f es l H (fun vs H1 => match T g with | some C => C vs H1 Q X | none => False) X
  | .bcall b es => evs f es l H (fun vs H1 => bfV b (vs.map (view H1)) fun v => Q v H1) X
  | .meth g o es => f o l H (fun v H1 => match v with | .inst C' fs => C' = mcls g ∧ evs f es l H1 (fun vs H2 => match T g with | some C => C (.inst C' fs :: vs) H2 Q X | none => False) X | _ => False) X
  | .smeth s o es => f o l H (fun v H1 => smOk s v ∧ evs f es l H1 (fun vs H2 => smV s v vs H2 Q) X) X
  | .attr o C k => f o l H (fun v H1 => match v with | .inst C' fs => C' = C ∧ (match fs[k]? with | some (.val _) => False | some y => Q y H1 | none => False) | _ => False) X
  | .idx a b => f a l H (fun x H1 => f b l H1 (fun y H2 => idxV (view H2 x) y fun v => Q v H2) X) X
  | .slice a lo hi => f a l H (fun x H1 => evo f lo l H1 (fun y H2 => evo f hi l H2 (fun z H3 => sliceV (view H3 x) y z fun v => Q v H3) X) X) X
  | .tup es => evs f es l H (fun vs H1 => vs.length ≤ 100000 ∧ Q (.tup vs) H1) X
  | .lst mu es => evs f es l H (fun vs H1 => vs.length ≤ 100000 ∧ match mu with
      | false => Q (.lst vs) H1
      | true => (∀ (P : Params) (I : Led) (xs : List Addr) (Vs : List Value),Rs P I xs vs Vs → Rs P I [] vs Vs) ∧ Q (.mu H1.length) (H1 ++ [vs])) X
  | .comp mu elt x fr it cond => f it l H (fun v H1 => optP (itemsOf v) fun vs => vs.length ≤ 100000 ∧ comps fq elt cond (fr.map fun k => (l[k]?).getD none) vs [] H1 (fun ys H2 => match mu with
      | false => Q (.lst ys) H2
      | true => (∀ (P : Params) (I : Led) (xs : List Addr) (Vs : List Value),Rs P I xs ys Vs → Rs P I [] ys Vs) ∧ Q (.mu H2.length) (H2 ++ [ys]))) X
  | .lam j fr => optP (alls (fr.map fun k => (l[k]?).getD none)) fun vs => Q (.fn j vs) H
  | .callv k => (match l[k]? with | some (some (.fn j caps)) => (match T (1000 + j) with | some C => C caps H Q X | none => False) | _ => False)
theorem ser1 {T : Nat → Option Con} {fq f : EF} {l : Loc} {H : MH} {Q : AV → MH → Prop} {X : Nat → MH → Prop} {v : AV} : stepE T fq f (.c v) l H Q X = (Q v H) := rfl
theorem ser2 {T : Nat → Option Con} {fq f : EF} {l : Loc} {H : MH} {Q : AV → MH → Prop} {X : Nat → MH → Prop} {k : Nat} : stepE T fq f (.loc k) l H Q X = ((match l[k]? with | some (some v) => Q v H | _ => False)) := rfl
theorem ser3 {T : Nat → Option Con} {fq f : EF} {l : Loc} {H : MH} {Q : AV → MH → Prop} {X : Nat → MH → Prop} {i : Nat} : stepE T fq f (.g i) l H Q X = ((match gtab[i]? with | some (_,v) => Q v H | none => False)) := rfl
theorem ser4 {T : Nat → Option Con} {fq f : EF} {l : Loc} {H : MH} {Q : AV → MH → Prop} {X : Nat → MH → Prop} {op : Operator} {a : IE} {b : IE} : stepE T fq f (.bin op a b) l H Q X = (f a l H (fun x H1 => f b l H1 (fun y H2 => binV op (view H2 x) (view H2 y) fun v => Q v H2) X) X) := rfl
theorem ser5 {T : Nat → Option Con} {fq f : EF} {l : Loc} {H : MH} {Q : AV → MH → Prop} {X : Nat → MH → Prop} {a : IE} {op : CmpOp} {b : IE} : stepE T fq f (.cmp a op b) l H Q X = (f a l H (fun x H1 => f b l H1 (fun y H2 => cmpV op (view H2 x) (view H2 y) fun c => Q (.bool c) H2) X) X) := rfl
theorem ser6 {T : Nat → Option Con} {fq f : EF} {l : Loc} {H : MH} {Q : AV → MH → Prop} {X : Nat → MH → Prop} {a : IE} {o1 : CmpOp} {b : IE} {o2 : CmpOp} {c : IE} : stepE T fq f (.chain a o1 b o2 c) l H Q X = (f a l H (fun x H1 => f b l H1 (fun y H2 => cmpV o1 (view H2 x) (view H2 y) fun k => brB k (f c l H2 (fun z H3 => cmpV o2 (view H3 y) (view H3 z) fun k2 => Q (.bool k2) H3) X) (Q (.bool false) H2)) X) X) := rfl
theorem ser7 {T : Nat → Option Con} {fq f : EF} {l : Loc} {H : MH} {Q : AV → MH → Prop} {X : Nat → MH → Prop} {a : IE} : stepE T fq f (.not a) l H Q X = (f a l H (fun v H1 => isB v fun b => Q (.bool (!b)) H1) X) := rfl
theorem ser8 {T : Nat → Option Con} {fq f : EF} {l : Loc} {H : MH} {Q : AV → MH → Prop} {X : Nat → MH → Prop} {es : List IE} : stepE T fq f (.and es) l H Q X = (ands f es l H Q X) := rfl
theorem ser9 {T : Nat → Option Con} {fq f : EF} {l : Loc} {H : MH} {Q : AV → MH → Prop} {X : Nat → MH → Prop} {es : List IE} : stepE T fq f (.or es) l H Q X = (ors f es l H Q X) := rfl
theorem ser10 {T : Nat → Option Con} {fq f : EF} {l : Loc} {H : MH} {Q : AV → MH → Prop} {X : Nat → MH → Prop} {t : IE} {a : IE} {b : IE} : stepE T fq f (.ife t a b) l H Q X = (f t l H (fun v H1 => isB v fun c => brB c (f a l H1 Q X) (f b l H1 Q X)) X) := rfl
theorem ser11 {T : Nat → Option Con} {fq f : EF} {l : Loc} {H : MH} {Q : AV → MH → Prop} {X : Nat → MH → Prop} {g : Nat} {es : List IE} : stepE T fq f (.call g es) l H Q X = (evs f es l H (fun vs H1 => match T g with | some C => C vs H1 Q X | none => False) X) := rfl
theorem ser12 {T : Nat → Option Con} {fq f : EF} {l : Loc} {H : MH} {Q : AV → MH → Prop} {X : Nat → MH → Prop} {b : BF} {es : List IE} : stepE T fq f (.bcall b es) l H Q X = (evs f es l H (fun vs H1 => bfV b (vs.map (view H1)) fun v => Q v H1) X) := rfl
theorem ser13 {T : Nat → Option Con} {fq f : EF} {l : Loc} {H : MH} {Q : AV → MH → Prop} {X : Nat → MH → Prop} {g : Nat} {o : IE} {es : List IE} : stepE T fq f (.meth g o es) l H Q X = (f o l H (fun v H1 => match v with | .inst C' fs => C' = mcls g ∧ evs f es l H1 (fun vs H2 => match T g with | some C => C (.inst C' fs :: vs) H2 Q X | none => False) X | _ => False) X) := rfl
theorem ser14 {T : Nat → Option Con} {fq f : EF} {l : Loc} {H : MH} {Q : AV → MH → Prop} {X : Nat → MH → Prop} {s : SM} {o : IE} {es : List IE} : stepE T fq f (.smeth s o es) l H Q X = (f o l H (fun v H1 => smOk s v ∧ evs f es l H1 (fun vs H2 => smV s v vs H2 Q) X) X) := rfl
theorem ser15 {T : Nat → Option Con} {fq f : EF} {l : Loc} {H : MH} {Q : AV → MH → Prop} {X : Nat → MH → Prop} {o : IE} {C : Nat} {k : Nat} : stepE T fq f (.attr o C k) l H Q X = (f o l H (fun v H1 => match v with | .inst C' fs => C' = C ∧ (match fs[k]? with | some (.val _) => False | some y => Q y H1 | none => False) | _ => False) X) := rfl
theorem ser16 {T : Nat → Option Con} {fq f : EF} {l : Loc} {H : MH} {Q : AV → MH → Prop} {X : Nat → MH → Prop} {a : IE} {b : IE} : stepE T fq f (.idx a b) l H Q X = (f a l H (fun x H1 => f b l H1 (fun y H2 => idxV (view H2 x) y fun v => Q v H2) X) X) := rfl
theorem ser17 {T : Nat → Option Con} {fq f : EF} {l : Loc} {H : MH} {Q : AV → MH → Prop} {X : Nat → MH → Prop} {a : IE} {lo : Option IE} {hi : Option IE} : stepE T fq f (.slice a lo hi) l H Q X = (f a l H (fun x H1 => evo f lo l H1 (fun y H2 => evo f hi l H2 (fun z H3 => sliceV (view H3 x) y z fun v => Q v H3) X) X) X) := rfl
theorem ser18 {T : Nat → Option Con} {fq f : EF} {l : Loc} {H : MH} {Q : AV → MH → Prop} {X : Nat → MH → Prop} {es : List IE} : stepE T fq f (.tup es) l H Q X = (evs f es l H (fun vs H1 => vs.length ≤ 100000 ∧ Q (.tup vs) H1) X) := rfl
theorem ser19 {T : Nat → Option Con} {fq f : EF} {l : Loc} {H : MH} {Q : AV → MH → Prop} {X : Nat → MH → Prop} {mu : Bool} {es : List IE} : stepE T fq f (.lst mu es) l H Q X = (evs f es l H (fun vs H1 => vs.length ≤ 100000 ∧ match mu with
      | false => Q (.lst vs) H1
      | true => (∀ (P : Params) (I : Led) (xs : List Addr) (Vs : List Value),Rs P I xs vs Vs → Rs P I [] vs Vs) ∧ Q (.mu H1.length) (H1 ++ [vs])) X) := rfl
theorem ser20 {T : Nat → Option Con} {fq f : EF} {l : Loc} {H : MH} {Q : AV → MH → Prop} {X : Nat → MH → Prop} {mu : Bool} {elt : IE} {x : Str} {fr : List Nat} {it : IE} {cond : Option IE} : stepE T fq f (.comp mu elt x fr it cond) l H Q X = (f it l H (fun v H1 => optP (itemsOf v) fun vs => vs.length ≤ 100000 ∧ comps fq elt cond (fr.map fun k => (l[k]?).getD none) vs [] H1 (fun ys H2 => match mu with
      | false => Q (.lst ys) H2
      | true => (∀ (P : Params) (I : Led) (xs : List Addr) (Vs : List Value),Rs P I xs ys Vs → Rs P I [] ys Vs) ∧ Q (.mu H2.length) (H2 ++ [ys]))) X) := rfl
theorem ser21 {T : Nat → Option Con} {fq f : EF} {l : Loc} {H : MH} {Q : AV → MH → Prop} {X : Nat → MH → Prop} {j : Nat} {fr : List Nat} : stepE T fq f (.lam j fr) l H Q X = (optP (alls (fr.map fun k => (l[k]?).getD none)) fun vs => Q (.fn j vs) H) := rfl
theorem ser22 {T : Nat → Option Con} {fq f : EF} {l : Loc} {H : MH} {Q : AV → MH → Prop} {X : Nat → MH → Prop} {k : Nat} : stepE T fq f (.callv k) l H Q X = ((match l[k]? with | some (some (.fn j caps)) => (match T (1000 + j) with | some C => C caps H Q X | none => False) | _ => False)) := rfl
noncomputable def setK (k : Nat) (cell : Bool) (v : AV) (l : Loc) : Option Loc := match cell with
  | false => some (l.set k (some v))
  | true => (match l[k]? with | some none => some (l.set k (some v)) | _ => none)
noncomputable def setAll : Ks → List AV → Loc → Option Loc
  | [],[],l => some l
  | (k,c) :: ks,v :: vs,l => (match setK k c v l with | some l1 => setAll ks vs l1 | none => none)
  | _,_,_ => none
noncomputable def bindT (ks : Ks) (one : Bool) (v : AV) (l : Loc) : Option Loc := match one,ks,v with
  | true,[(k,c)],v => setK k c v l
  | false,ks,.tup vs => setAll ks vs l
  | _,_,_ => none
noncomputable def forI (g : SF) (ks : Ks) (one : Bool) (b : List IS) (X : Nat → MH → Prop) : List AV → Loc → MH → (FL → Loc → MH → Prop) → Prop
  | [],l,H,Q => Q .next l H
  | v :: vs,l,H,Q => optP (bindT ks one v l) fun l1 => g b l1 H (fun fl l2 H2 => match fl with
      | .next | .cont => forI g ks one b X vs l2 H2 Q
      | .brk => Q .next l2 H2
      | .ret r => Q (.ret r) l2 H2) X
theorem sek1 {k : Nat} {v : AV} {l : Loc} : setK k false v l = some (l.set k (some v)) := rfl
theorem sek2 {k : Nat} {v : AV} {l : Loc} : setK k true v l = (match l[k]? with | some none => some (l.set k (some v)) | _ => none) := rfl
theorem sea3 {k : Nat} {ks : Ks} {v : AV} {vs : List AV} {l : Loc} : setAll ((k,true) :: ks) (v :: vs) l = (match setK k true v l with | some l1 => setAll ks vs l1 | none => none) := rfl
theorem sea1 {l : Loc} : setAll [] [] l = some l := rfl
theorem sea2 {k : Nat} {ks : Ks} {v : AV} {vs : List AV} {l : Loc} : setAll ((k,false) :: ks) (v :: vs) l = setAll ks vs (l.set k (some v)) := rfl
theorem bit1 {k : Nat} {c : Bool} {v : AV} {l : Loc} : bindT [(k,c)] true v l = setK k c v l := rfl
theorem bit2 {ks : Ks} {vs : List AV} {l : Loc} : bindT ks false (.tup vs) l = setAll ks vs l := rfl
noncomputable def whileI (f : EF) (g : SF) (t : IE) (b : List IS) (X : Nat → MH → Prop) : Nat → Loc → MH → (FL → Loc → MH → Prop) → Prop
  | 0,_,_,_ => False
  | n + 1,l,H,Q => f t l H (fun v H1 => isB v fun c => brB c (g b l H1 (fun fl l2 H2 => match fl with
      | .next | .cont => whileI f g t b X n l2 H2 Q
      | .brk => Q .next l2 H2
      | .ret r => Q (.ret r) l2 H2) X) (Q .next l H1)) X
noncomputable def stepI (ql : Bool) (fq : EF) (gq : SF) (f : EF) (g : SF) : IS → Loc → MH → (FL → Loc → MH → Prop) → (Nat → MH → Prop) → Prop := fun st l H Q X => match st with
  | .asg k c e => f e l H (fun v H1 => optP (setK k c v l) fun l1 => Q .next l1 H1) X
  | .asgT ks sw e => f e l H (fun v H1 => match sw,v with
      | false,.tup vs => optP (setAll ks vs l) fun l1 => Q .next l1 H1
      | true,.tup vs => optP (setAll ks.reverse vs.reverse l) fun l1 => Q .next l1 H1
      | _,_ => False) X
  | .asgI o i e => f e l H (fun v H1 => f o l H1 (fun x H2 => f i l H2 (fun y H3 => match x,y with
      | .mu j,.int k => (match H3[j]? with | some xs => (0 ≤ k ∧ k < xs.length ∧ xs.length ≤ 100000) ∧ (∀ (P : Params) (I : Led) (xs : List Addr) (V : Value),RepV P I xs v V → RepV P I [] v V) ∧ Q .next l (H3.set j (xs.set k.toNat v)) | none => False)
      | _,_ => False) X) X) X
  | .iff t a b => f t l H (fun v H1 => isB v fun c => brB c (g a l H1 Q X) (g b l H1 Q X)) X
  | .forS ks one it b => f it l H (fun v H1 => optP (itemsOf v) fun vs => forI gq ks one b X vs l H1 Q) X
  | .whileS t b => ∃ n,whileI fq gq t b X n l H Q
  | .ret e => f e l H (fun v H1 => Q (.ret v) l H1) X
  | .ex e => f e l H (fun _ H1 => Q .next l H1) X
  | .cont => Q .cont l H
  | .raise C e => f e l H (fun v H1 => ∃ x,v = .str x ∧ x.length ≤ 1000 ∧ X C H1) X
  | .tryS e C v => ql = false ∧ f e l H (fun _ H1 => Q .next l H1) (fun C' H1 => C' = C ∧ Q (.ret v) l H1)
  | .forE ki kv it b => f it l H (fun v H1 => match v with | .lst vs => forI gq [(ki,false),(kv,false)] false b X (enumL 0 vs) l H1 Q | _ => False) X
theorem sir1 {ql : Bool} {fq f : EF} {gq g : SF} {l : Loc} {H : MH} {Q : FL → Loc → MH → Prop} {X : Nat → MH → Prop} {k : Nat} {c : Bool} {e : IE} : stepI ql fq gq f g (.asg k c e) l H Q X = (f e l H (fun v H1 => optP (setK k c v l) fun l1 => Q .next l1 H1) X) := rfl
theorem sir2 {ql : Bool} {fq f : EF} {gq g : SF} {l : Loc} {H : MH} {Q : FL → Loc → MH → Prop} {X : Nat → MH → Prop} {ks : Ks} {sw : Bool} {e : IE} : stepI ql fq gq f g (.asgT ks sw e) l H Q X = (f e l H (fun v H1 => match sw,v with
      | false,.tup vs => optP (setAll ks vs l) fun l1 => Q .next l1 H1
      | true,.tup vs => optP (setAll ks.reverse vs.reverse l) fun l1 => Q .next l1 H1
      | _,_ => False) X) := rfl
theorem sir3 {ql : Bool} {fq f : EF} {gq g : SF} {l : Loc} {H : MH} {Q : FL → Loc → MH → Prop} {X : Nat → MH → Prop} {o : IE} {i : IE} {e : IE} : stepI ql fq gq f g (.asgI o i e) l H Q X = (f e l H (fun v H1 => f o l H1 (fun x H2 => f i l H2 (fun y H3 => match x,y with
      | .mu j,.int k => (match H3[j]? with | some xs => (0 ≤ k ∧ k < xs.length ∧ xs.length ≤ 100000) ∧ (∀ (P : Params) (I : Led) (xs : List Addr) (V : Value),RepV P I xs v V → RepV P I [] v V) ∧ Q .next l (H3.set j (xs.set k.toNat v)) | none => False)
      | _,_ => False) X) X) X) := rfl
theorem sir4 {ql : Bool} {fq f : EF} {gq g : SF} {l : Loc} {H : MH} {Q : FL → Loc → MH → Prop} {X : Nat → MH → Prop} {t : IE} {a : List IS} {b : List IS} : stepI ql fq gq f g (.iff t a b) l H Q X = (f t l H (fun v H1 => isB v fun c => brB c (g a l H1 Q X) (g b l H1 Q X)) X) := rfl
theorem sir5 {ql : Bool} {fq f : EF} {gq g : SF} {l : Loc} {H : MH} {Q : FL → Loc → MH → Prop} {X : Nat → MH → Prop} {ks : Ks} {one : Bool} {it : IE} {b : List IS} : stepI ql fq gq f g (.forS ks one it b) l H Q X = (f it l H (fun v H1 => optP (itemsOf v) fun vs => forI gq ks one b X vs l H1 Q) X) := rfl
theorem sir6 {ql : Bool} {fq f : EF} {gq g : SF} {l : Loc} {H : MH} {Q : FL → Loc → MH → Prop} {X : Nat → MH → Prop} {t : IE} {b : List IS} : stepI ql fq gq f g (.whileS t b) l H Q X = (∃ n,whileI fq gq t b X n l H Q) := rfl
theorem sir7 {ql : Bool} {fq f : EF} {gq g : SF} {l : Loc} {H : MH} {Q : FL → Loc → MH → Prop} {X : Nat → MH → Prop} {e : IE} : stepI ql fq gq f g (.ret e) l H Q X = (f e l H (fun v H1 => Q (.ret v) l H1) X) := rfl
theorem sir8 {ql : Bool} {fq f : EF} {gq g : SF} {l : Loc} {H : MH} {Q : FL → Loc → MH → Prop} {X : Nat → MH → Prop} {e : IE} : stepI ql fq gq f g (.ex e) l H Q X = (f e l H (fun _ H1 => Q .next l H1) X) := rfl
theorem sir9 {ql : Bool} {fq f : EF} {gq g : SF} {l : Loc} {H : MH} {Q : FL → Loc → MH → Prop} {X : Nat → MH → Prop}  : stepI ql fq gq f g (.cont) l H Q X = (Q .cont l H) := rfl
theorem sir10 {ql : Bool} {fq f : EF} {gq g : SF} {l : Loc} {H : MH} {Q : FL → Loc → MH → Prop} {X : Nat → MH → Prop} {C : Nat} {e : IE} : stepI ql fq gq f g (.raise C e) l H Q X = (f e l H (fun v H1 => ∃ x,v = .str x ∧ x.length ≤ 1000 ∧ X C H1) X) := rfl
theorem sir11 {ql : Bool} {fq f : EF} {gq g : SF} {l : Loc} {H : MH} {Q : FL → Loc → MH → Prop} {X : Nat → MH → Prop} {e : IE} {C : Nat} {v : AV} : stepI ql fq gq f g (.tryS e C v) l H Q X = (ql = false ∧ f e l H (fun _ H1 => Q .next l H1) (fun C' H1 => C' = C ∧ Q (.ret v) l H1)) := rfl
theorem sir12 {ql : Bool} {fq f : EF} {gq g : SF} {l : Loc} {H : MH} {Q : FL → Loc → MH → Prop} {X : Nat → MH → Prop} {ki : Nat} {kv : Nat} {it : IE} {b : List IS} : stepI ql fq gq f g (.forE ki kv it b) l H Q X = (f it l H (fun v H1 => match v with | .lst vs => forI gq [(ki,false),(kv,false)] false b X (enumL 0 vs) l H1 Q | _ => False) X) := rfl
noncomputable def seqQ (g : SF) (r : List IS) (Q : FL → Loc → MH → Prop) (X : Nat → MH → Prop) : FL → Loc → MH → Prop := fun fl l1 H1 => match fl with | .next => g r l1 H1 Q X | fl => Q fl l1 H1
noncomputable def stepS (ql : Bool) (fq : EF) (gq : SF) (f : EF) (g : SF) : SF := fun b l H Q X => match b with
  | [] => Q .next l H
  | st :: r => stepI ql fq gq f g st l H (seqQ g r Q X) X
noncomputable def wpq (T : Nat → Option Con) : Nat → EF × SF := fun n => Nat.rec (fun _ _ _ _ _ => False,fun _ _ _ _ _ => False) (fun _ r => (stepE T r.1 r.1,stepS true r.1 r.2 r.1 r.2)) n
noncomputable def wps (Tq T : Nat → Option Con) : Nat → EF × SF := fun n => Nat.rec (fun _ _ _ _ _ => False,fun _ _ _ _ _ => False) (fun n r => (stepE T (wpq Tq n).1 r.1,stepS false (wpq Tq n).1 (wpq Tq n).2 r.1 r.2)) n
section
variable (prog : Program) (w : World) (K : Frag) (p : Program) (loose : List Str) (mean : ExcName → Option Value) (mg mb : Str → Option Value)
noncomputable def FlyS (base G : Heap) (l : List Env) (e : Addr) (cl : Nat) (news : Led) (h : Heap) : Prop := ∃ B a0,base.StaysIn B ∧ (∀ b o,G.get? b = some o → b ∉ l.filterMap (·.frame) → B.get? b = some o) ∧
  (∀ q ∈ news,B.get? q.1 = some q.2 ∧ G.get? q.1 = none ∧ base.get? q.1 = none) ∧ Heap.FlyingW B l e (.ref cl) a0 h
structure MadeX (h0 h : Heap) (e : Addr) (cl : Nat) : Prop where
  keeps : ∀ b o,h0.get? b = some o → h.get? b = some o
  new : h0.get? e = none
  there : ∃ d t,h.get? e = some { cls := .ref cl,dict := d,data := .fields #[.ref t,.none,.none,.none,.bool false,.none] }
structure RB (c : FrameCx) (P : Params) (X : Led) (H : MH) (wd : Wd) : Prop where
  below : Below c.A₀ c.base c.outer wd.g
  dic : KtsDicts c.frs wd.g
  mr : MoR P wd.I H wd.Mo
  nd : wd.xs.Nodup
  sp : ∀ e ∈ wd.Mo,∀ q ∈ wd.I ++ X,q.1 ≠ e.1
  ap : ∀ q ∈ wd.I,∀ x ∈ X,q.1 ≠ x.1
structure RC (c : FrameCx) (P : Params) (m : Str → Option Value) (X : Led) (H : MH) (wd : Wd) (cl : Nat) (e : Value) (h : Heap) : Prop extends RB c P X H wd where
  ex : ∃ a G,e = .ref a ∧ Fr wd.g c.L G m ∧ FlyS c.base G (c.env :: c.outer) a cl (wd.all X) h ∧ G.UpToSlots h
structure RCS (c : FrameCx) (P : Params) (m : Str → Option Value) (X : Led) (H : MH) (wd : Wd) (cl : Nat) (e : Value) (h : Heap) : Prop extends RB c P X H wd where
  ex : ∃ a,e = .ref a ∧ ((∃ h0,Fr wd.g c.L h0 m ∧ News wd.g c.L h0 (wd.all X) ∧ MadeX h0 h a cl) ∨ ∃ G,Fr wd.g c.L G m ∧ FlyS c.base G (c.env :: c.outer) a cl (wd.all X) h ∧ G.UpToSlots h)
theorem RC.s {c : FrameCx} {P : Params} {m : Str → Option Value} {X : Led} {H : MH} {wd : Wd} {cl : Nat} {e : Value} {h : Heap} (r : RC c P m X H wd cl e h) : RCS c P m X H wd cl e h :=
  ⟨r.toRB,by obtain ⟨a,G,e1,e2,e3,e4⟩ := r.ex; exact ⟨a,e1,.inr ⟨G,e2,e3,e4⟩⟩⟩
noncomputable def Sound (ql : Bool) (f : Nat) (D : Nat) (C : Con) : Prop :=
  ∀ (c : FrameCx) (args : List AV) (H : MH) (Q : AV → MH → Prop) (X : Nat → MH → Prop) (m : Str → Option Value) (Y : Led) (wd : Wd) (s : Shared) (vs : List Value) (Qr Er : Value → Shared → Prop),
    c.Ok K p loose mean mg mb → C args H Q X → RepS c w.params m Y H wd s.heap → wd.rep w.params args vs → c.dp + D < recursionLimit → c.un + 8 * D + 200 < cLine →
    (∀ v H' wd' s' V,Q v H' → Step ql c wd s wd' s' → RepS c w.params m Y H' wd' s'.heap → wd'.rep w.params [v] [V] → Qr V s') →
    (∀ cl H' wd' s' e,X cl H' → Step ql c wd s wd' s' → RC c w.params m Y H' wd' cl e s'.heap → Er e s') →
    wpAny (model prog w) c.A (call (.ref f) vs) Qr Er s
noncomputable def SoundL (ql : Bool) (j : Nat) (D : Nat) (C : Con) : Prop :=
  ∀ (c : FrameCx) (args : List AV) (H : MH) (Q : AV → MH → Prop) (X : Nat → MH → Prop) (m : Str → Option Value) (Y : Led) (wd : Wd) (s : Shared) (a : Addr) (Qr Er : Value → Shared → Prop),
    c.Ok K p loose mean mg mb → C args H Q X → RepS c w.params m Y H wd s.heap → wd.rep w.params [.fn j args] [.ref a] → c.dp + D < recursionLimit → c.un + 8 * D + 200 < cLine →
    (∀ v H' wd' s' V,Q v H' → Step ql c wd s wd' s' → RepS c w.params m Y H' wd' s'.heap → wd'.rep w.params [v] [V] → Qr V s') →
    (∀ cl H' wd' s' e,X cl H' → Step ql c wd s wd' s' → RC c w.params m Y H' wd' cl e s'.heap → Er e s') →
    wpAny (model prog w) c.A (call (.ref a) []) Qr Er s
structure Cxt where
  c : FrameCx
  env : Env
  sc : Sc
  m : Str → Option Value
  Y : Led
  l : Loc
noncomputable def Reads (t : Cxt) (I : Led) (x : Str) (V : Value) : Prop :=
  ∀ {A : Around} {E Q : Value → Shared → Prop} {s : Shared} {pos : Pos} {g : Heap},Fr g t.c.L s.heap t.m → (∀ q ∈ t.Y,s.heap.get? q.1 = some q.2) → (∀ q ∈ I,¬ Tb q → s.heap.get? q.1 = some q.2) → Q V s → wpAny (model prog w) A (eval (.Name x pos) t.env) Q E s
structure Cxt.Ok (D : Nat) (t : Cxt) : Prop where
  c : t.c.Ok K p loose mean mg mb
  gl : t.env.globals = mainGlobals
  bi : t.env.builtins = builtinsNs
  fn : t.env.scope.kind = .function
  kd : ∀ x,t.sc.names.lookup x = some .globalImplicit → t.env.kindOf x = some .globalImplicit
  cel : ∀ x ∈ t.sc.cells,t.env = t.c.env ∧ t.env.kindOf x = some .cell ∧ ∃ a,t.env.cells.lookup x = some a
  room : t.c.dp + D < recursionLimit
  tb : ∀ cd P,t.sc.tab = some (cd,P) → t.env = t.c.env ∧ t.c.ccd = .ref cd ∧ codeHdIn K cd P = true ∧ (P = 640 ∨ P = 645) ∧ t.c.cn ++ ".<locals>." ++ "<lambda>" = tabQ P
  units : t.c.un + 8 * D + 200 < cLine
noncomputable def Celled (t : Cxt) (I : Led) (x : Str) (V : Value) : Prop := x ∈ t.sc.cells → ∃ a o,t.env.cells.lookup x = some a ∧ (a,o) ∈ I ∧ o.data = .cell (some V)
noncomputable def LocOk (t : Cxt) (wd : Wd) : Prop := ∀ (k : Nat) (v : AV),t.l[k]? = some (some v) → ∃ x V,t.sc.slots[k]? = some x ∧ wd.rep w.params [v] [V] ∧ Reads prog w t wd.I x V ∧ Celled t wd.I x V
theorem LocOk.step {ql : Bool} {t : Cxt} {wd wd' : Wd} {s s' : Shared} (h : LocOk prog w t wd) (st : Step ql t.c wd s wd' s') : LocOk prog w t wd' := fun k v e =>
  by obtain ⟨x,V,a,b,r,cc⟩ := h k v e; exact ⟨x,V,a,b.step st,fun F hY hI q => r F hY (fun q hq nt => hI q (st.ext.sub q hq nt) nt) q,fun hx => by obtain ⟨a,o,e1,e2,e3⟩ := cc hx; exact ⟨a,o,e1,st.ext.sub _ e2 (Tb.no fun ps h => by rw [e3] at h; cases h),e3⟩⟩
noncomputable def Tri (ql : Bool) (t : Cxt) (wd : Wd) (s : Shared) (tree : Sem Value) (Q : AV → MH → Prop) (X : Nat → MH → Prop) : Prop :=
  ∀ (Qr Er : Value → Shared → Prop),(∀ v H' wd' s' V,Q v H' → Step ql t.c wd s wd' s' → RepS t.c w.params t.m t.Y H' wd' s'.heap → wd'.rep w.params [v] [V] → Qr V s') →
    (∀ cl H' wd' s' e,X cl H' → Step ql t.c wd s wd' s' → RC t.c w.params t.m t.Y H' wd' cl e s'.heap → Er e s') → wpAny (model prog w) t.c.A tree Qr Er s
noncomputable def TriL (ql : Bool) (t : Cxt) (wd : Wd) (s : Shared) (tree : Sem (List Value)) (Q : List AV → MH → Prop) (X : Nat → MH → Prop) : Prop :=
  ∀ (Qr : List Value → Shared → Prop) (Er : Value → Shared → Prop),(∀ v H' wd' s' V,Q v H' → Step ql t.c wd s wd' s' → RepS t.c w.params t.m t.Y H' wd' s'.heap → wd'.rep w.params v V → Qr V s') →
    (∀ cl H' wd' s' e,X cl H' → Step ql t.c wd s wd' s' → RC t.c w.params t.m t.Y H' wd' cl e s'.heap → Er e s') → wpAny (model prog w) t.c.A tree Qr Er s
noncomputable def TriB (ql : Bool) (t : Cxt) (wd : Wd) (s : Shared) (tree : Sem Bool) (Q : Bool → MH → Prop) (X : Nat → MH → Prop) : Prop :=
  ∀ (Qr : Bool → Shared → Prop) (Er : Value → Shared → Prop),(∀ v H' wd' s',Q v H' → Step ql t.c wd s wd' s' → RepS t.c w.params t.m t.Y H' wd' s'.heap → Qr v s') →
    (∀ cl H' wd' s' e,X cl H' → Step ql t.c wd s wd' s' → RC t.c w.params t.m t.Y H' wd' cl e s'.heap → Er e s') → wpAny (model prog w) t.c.A tree Qr Er s
noncomputable def ESound (ql : Bool) (D : Nat) (f : EF) : Prop :=
  ∀ (n : Nat) (ie : IE) (e : Expr) (t : Cxt),chkE n t.sc ie e = true → Cxt.Ok K p loose mean mg mb D t → ∀ (H : MH) (wd : Wd) (s : Shared) (Q : AV → MH → Prop) (X : Nat → MH → Prop),
    RepS t.c w.params t.m t.Y H wd s.heap → LocOk prog w t wd → f ie t.l H Q X → Tri prog w ql t wd s (eval e t.env) Q X
noncomputable def BSound (ql : Bool) (D : Nat) (f : EF) : Prop :=
  ∀ (n : Nat) (ie : IE) (e : Expr) (t : Cxt),chkE n t.sc ie e = true → Cxt.Ok K p loose mean mg mb D t → ∀ (H : MH) (wd : Wd) (s : Shared) (Q : Bool → MH → Prop) (X : Nat → MH → Prop),
    RepS t.c w.params t.m t.Y H wd s.heap → LocOk prog w t wd → f ie t.l H (fun v H' => isB v fun b => Q b H') X → TriB prog w ql t wd s (isTrue e t.env (eval e t.env)) Q X
end
section
variable {prog : Program} {w : World} {K : Frag} {p : Program} {loose : List Str} {mean : ExcName → Option Value} {mg mb : Str → Option Value}
theorem isB_some {v : AV} {k : Bool → Prop} (h : isB v k) : ∃ b,v = .bool b ∧ k b := by
  cases v <;> first | exact h.elim | exact ⟨_,rfl,h⟩
theorem optP_some {α : Type} {o : Option α} {k : α → Prop} (h : optP o k) : ∃ a,o = some a ∧ k a := by
  cases o <;> first | exact h.elim | exact ⟨_,rfl,h⟩
theorem Tri.to {ql : Bool} {t : Cxt} {wd : Wd} {s : Shared} {tree : Sem Value} {Q Q' : AV → MH → Prop} {X : Nat → MH → Prop} (h : Tri prog w ql t wd s tree Q X) (i : ∀ v H,Q v H → Q' v H) : Tri prog w ql t wd s tree Q' X :=
  fun Qr Er hK hX => h Qr Er (fun v H' wd' s' V q => hK v H' wd' s' V (i v H' q)) hX
theorem on_step {ql : Bool} {t : Cxt} {X : Nat → MH → Prop} {wd wd₁ : Wd} {s s₁ : Shared} {Er : Value → Shared → Prop} (st : Step ql t.c wd s wd₁ s₁)
    (hX : ∀ cl H' wd' s' e,X cl H' → Step ql t.c wd s wd' s' → RC t.c w.params t.m t.Y H' wd' cl e s'.heap → Er e s') :
    ∀ cl H' wd' s' e,X cl H' → Step ql t.c wd₁ s₁ wd' s' → RC t.c w.params t.m t.Y H' wd' cl e s'.heap → Er e s' := fun cl H' wd' s' e x st' r => hX cl H' wd' s' e x (st.trans st') r
theorem chkL_some {f : IE → Expr → Bool} : ∀ {es : List IE} {es' : List Expr},chkL f es es' = true → (es = [] ∧ es' = []) ∨ ∃ a r b t,es = a :: r ∧ es' = b :: t ∧ f a b = true ∧ chkL f r t = true
  | [],[],_ => .inl ⟨rfl,rfl⟩
  | _ :: _,_ :: _,h => .inr ⟨_,_,_,_,rfl,rfl,(Bool.and_eq_true_iff.mp h).1,(Bool.and_eq_true_iff.mp h).2⟩
  | [],_ :: _,h => falseX h
  | _ :: _,[],h => falseX h
theorem chkL_cons {f : IE → Expr → Bool} {a : IE} {r : List IE} {es' : List Expr} (h : chkL f (a :: r) es' = true) : ∃ b t,es' = b :: t ∧ f a b = true ∧ chkL f r t = true := by
  cases es' with
  | nil => exact falseX h
  | cons b t => exact ⟨b,t,rfl,and2 h⟩
theorem chkL_nil {f : IE → Expr → Bool} {es' : List Expr} (h : chkL f [] es' = true) : es' = [] := by
  cases es' with
  | nil => rfl
  | cons b t => exact falseX h
theorem chkL_1 {f : IE → Expr → Bool} {a : IE} {es' : List Expr} (h : chkL f [a] es' = true) : ∃ b,es' = [b] ∧ f a b = true := by
  rcases es' with _ | ⟨b,_ | ⟨b2,t⟩⟩
  · exact falseX h
  · exact ⟨b,rfl,(and2 h).1⟩
  · exact falseX (and2 h).2
theorem chkL_2 {f : IE → Expr → Bool} {a a2 : IE} {r : List IE} {es' : List Expr} (h : chkL f (a :: a2 :: r) es' = true) : ∃ b b2 t,es' = b :: b2 :: t ∧ f a b = true ∧ chkL f (a2 :: r) (b2 :: t) = true := by
  rcases es' with _ | ⟨b,_ | ⟨b2,t⟩⟩
  · exact falseX h
  · exact falseX (and2 h).2
  · exact ⟨b,b2,t,rfl,and2 h⟩
theorem chkL_rn {f : IE → Expr → Bool} {es : List IE} (h : chkL f es [] = true) : es = [] := by
  cases es with
  | nil => rfl
  | cons b t => exact falseX h
theorem chkL_rc {f : IE → Expr → Bool} {es : List IE} {e : Expr} {t : List Expr} (h : chkL f es (e :: t) = true) : ∃ a r,es = a :: r ∧ f a e = true ∧ chkL f r t = true := by
  cases es with
  | nil => exact falseX h
  | cons a r => exact ⟨a,r,rfl,and2 h⟩
theorem chk_pos {n : Nat} {sc : Sc} {ie : IE} {e : Expr} (h : chkE n sc ie e = true) : ∃ k,n = k + 1 ∧ stepC (chkE k) sc ie e = true := by
  cases n with
  | zero => exact falseX h
  | succ k => exact ⟨k,rfl,h⟩
theorem view_mu {H : MH} {i : Nat} {xs : List AV} (e : view H (.mu i) = .lst xs) : H[i]? = some xs := by
  have e : (match H[i]? with | some xs => AV.lst xs | none => AV.mu i) = .lst xs := e
  cases hy : H[i]? with
  | some ys => rw [hy] at e; exact congrArg some (lst_inj e)
  | none => rw [hy] at e; cases e
theorem view_lst {P : Params} {wd : Wd} {H : MH} {a : AV} {A : Value} {xs : List AV} (mr : MoR P wd.I H wd.Mo) (r : wd.rep P [a] [A]) (e : view H a = .lst xs) : ∃ d vs n,A = .ref d ∧ (d,lstO vs n) ∈ wd.I ++ wd.Mo ∧ wd.rep P xs vs := by
  cases a <;> first | (exact AV.noConfusion e) | skip
  case lst ys =>
    cases lst_inj e
    refine byC fun no9 => ?_
    obtain ⟨_,_,_,e,m,h⟩ := RepV.ls r
    refine no9 ?_
    clear no9
    exact ⟨_,_,_,e,List.mem_append_left _ m,h⟩
  case mu i =>
    refine byC fun no9 => ?_
    obtain ⟨d,vs,n,hm,hr⟩ := mr.get (view_mu e)
    refine no9 ?_
    clear no9
    obtain ⟨a,rfl,e1⟩ := RepV.mm r
    rw [Wd.xs,List.getElem?_map,hm] at e1
    cases Option.some.inj e1
    exact ⟨_,_,_,rfl,List.mem_append_right _ (List.mem_of_getElem? hm),hr.mono (fun _ h => h) fun _ _ h => by exact noneX h⟩
theorem view_ne {P : Params} {wd : Wd} {H : MH} {a b : AV} {A : Value} (r : wd.rep P [a] [A]) (e : view H a = b) (hl : ∀ xs,b ≠ .lst xs) : wd.rep P [b] [A] := by
  cases a <;> first | (exact e ▸ r) | skip
  case mu i =>
    have e : (match H[i]? with | some xs => AV.lst xs | none => AV.mu i) = b := e
    cases hy : H[i]? with
    | some ys => rw [hy] at e; exact absurd e.symm (hl _)
    | none => rw [hy] at e; exact e ▸ r
theorem view_i {P : Params} {wd : Wd} {H : MH} {a : AV} {A : Value} {n : Int} (r : wd.rep P [a] [A]) (e : view H a = .int n) : ∃ u,A = .int n u := RepV.i (view_ne r e fun _ h => AV.noConfusion h)
theorem view_s {P : Params} {wd : Wd} {H : MH} {a : AV} {A : Value} {n : Str} (r : wd.rep P [a] [A]) (e : view H a = .str n) : ∃ u,A = .str n u := RepV.s (view_ne r e fun _ h => AV.noConfusion h)
theorem view_b {P : Params} {wd : Wd} {H : MH} {a : AV} {A : Value} {n : Bool} (r : wd.rep P [a] [A]) (e : view H a = .bool n) : A = .bool n := RepV.b (view_ne r e fun _ h => AV.noConfusion h)
theorem view_t {P : Params} {wd : Wd} {H : MH} {a : AV} {A : Value} {ys : List AV} (r : wd.rep P [a] [A]) (e : view H a = .tup ys) : ∃ d vs c,A = .ref d ∧ (d,tupO vs c) ∈ wd.I ∧ wd.rep P ys vs := RepV.tu (view_ne r e fun _ h => AV.noConfusion h)
theorem view_by {P : Params} {wd : Wd} {H : MH} {a : AV} {A : Value} {ns : List Int} (r : wd.rep P [a] [A]) (e : view H a = .bytes ns) : ∃ b t,A = .bytes b t ∧ b.toList.map (fun b => (b.toNat : Int)) = ns := RepV.by' (view_ne r e fun _ h => AV.noConfusion h)
theorem view_n {P : Params} {wd : Wd} {H : MH} {a : AV} {A : Value} (r : wd.rep P [a] [A]) (e : view H a = .none) : A = .none := RepV.n (view_ne r e fun _ h => AV.noConfusion h)
theorem RepS.isList {c : FrameCx} {P : Params} {m : Str → Option Value} {X : Led} {H : MH} {wd : Wd} {h : Heap} (S : RepS c P m X H wd h) {d : Addr} {vs : List Value} {n : Nat} (hm : (d,lstO vs n) ∈ wd.I ++ wd.Mo) : h.get? d = some (lstO vs n) :=
  (S.nw (d,lstO vs n) (by rcases List.mem_append.mp hm with q | q <;> simp [q])).1
theorem isPy_reads {P : Params} {wd : Wd} {h : Heap} (hI : ∀ q ∈ wd.I,h.get? q.1 = some q.2) {l : List AV} {ds : List PyData} (i : IsPy l ds) : ∀ {R : List Value},wd.rep P l R → ∃ as,ReadsAll h R ds as := by
  induction i with
  | nil => intro R r; cases r.nil0; exact ⟨_,.nil⟩
  | none _ ih => intro R r; obtain ⟨V,R',rfl,h1,r'⟩ := r.uncons; cases h1.n; obtain ⟨as,x⟩ := ih r'; exact ⟨_,.cons .none x⟩
  | bool b _ ih => intro R r; obtain ⟨V,R',rfl,h1,r'⟩ := r.uncons; cases h1.b; obtain ⟨as,x⟩ := ih r'; exact ⟨_,.cons (.bool _) x⟩
  | int n _ ih => intro R r; obtain ⟨V,R',rfl,h1,r'⟩ := r.uncons; obtain ⟨t,rfl⟩ := h1.i; obtain ⟨as,x⟩ := ih r'; exact ⟨_,.cons (.int _ _) x⟩
  | str x _ ih => intro R r; obtain ⟨V,R',rfl,h1,r'⟩ := r.uncons; obtain ⟨t,rfl⟩ := h1.s; obtain ⟨as,x⟩ := ih r'; exact ⟨_,.cons (.str _ _) x⟩
  | tup _ _ i1 i2 => intro R r; obtain ⟨V,R',rfl,h1,r'⟩ := r.uncons; obtain ⟨_,_,_,rfl,m,h⟩ := h1.tu; obtain ⟨as,x⟩ := i1 h; obtain ⟨bs,y⟩ := i2 r'; exact ⟨_,.cons (.tuple (hI _ m) rfl rfl (by simpa using x)) y⟩
  | lst _ _ i1 i2 => intro R r; obtain ⟨V,R',rfl,h1,r'⟩ := r.uncons; obtain ⟨_,_,_,rfl,m,h⟩ := h1.ls; obtain ⟨as,x⟩ := i1 h; obtain ⟨bs,y⟩ := i2 r'; exact ⟨_,.cons (.list (hI _ m) rfl rfl (by simpa using x)) y⟩
end
section
variable {f : Sc → IE → Expr → Bool} {sc : Sc} {e : Expr}
theorem inv_neg {v : AV} {op : UnaryOp} {x : Expr} (h : negC v op x = true) : ∃ i k n p,v = .int i ∧ op = .USub ∧ x = .Constant (.int k) n p ∧ i = -k := by
  cases v <;> first | exact falseX h | skip
  refine byC fun no9 => ?_
  obtain ⟨c,h2,h3⟩ := optB_some (and2 h).2
  obtain ⟨n,p,e2⟩ := conE_eq h2
  refine no9 ?_
  clear no9
  cases c <;> first | exact falseX h3 | skip
  exact ⟨_,_,n,p,rfl,(beq_iff_eq.mp (and2 h).1),e2,beq_iff_eq.mp h3⟩
theorem inv_c {v : AV} (h : stepC f sc (.c v) e = true) : (∃ k n p,e = .Constant k n p ∧ constIs v k = true) ∨ ∃ i k n p q,v = .int i ∧ e = .UnaryOp .USub (.Constant (.int k) n p) q ∧ i = -k := by
  have h : (match conE e with | some k => constIs v k | none => optB (unE e) fun z => negC v z.1 z.2) = true := h
  cases hc : conE e with
  | some k => rw [hc] at h; obtain ⟨n,p,e1⟩ := conE_eq hc; exact .inl ⟨k,n,p,e1,h⟩
  | none =>
    rw [hc] at h
    refine byC fun no9 => ?_
    obtain ⟨z,h1,h⟩ := optB_some h
    obtain ⟨q,e1⟩ := unE_eq h1
    obtain ⟨i,k,n,p,e2,e3,e4,e5⟩ := inv_neg h
    refine no9 ?_
    clear no9
    exact .inr ⟨i,k,n,p,q,e2,by rw [e1,e3,e4],e5⟩
theorem inv_loc {k : Nat} (h : stepC f sc (.loc k) e = true) {CC : Expr → Prop} (kk : ∀ x p,sc.slots[k]? = some x → notDebug x = true → CC (.Name x p)) : CC e :=
  by obtain ⟨z,h1,h⟩ := optB_some h; exact cps (nameE_eq h1) (kk z.1 z.2 (beq_iff_eq.mp (and2 h).1) ((and2 h).2))
theorem inv_g {i : Nat} (h : stepC f sc (.g i) e = true) {CC : Expr → Prop} (kk : ∀ x p v,gtab[i]? = some (x,v) → sc.glob x = true → CC (.Name x p)) : CC e := by
  obtain ⟨z,h1,h⟩ := optB_some h
  obtain ⟨y,hy,h2⟩ := (Option.any_eq_true _ _).mp (and2 h).1
  exact cps (nameE_eq h1) (kk z.1 z.2 y.2 (by rw [hy,← beq_iff_eq.mp h2]) ((and2 h).2))
theorem inv_bin {op : Operator} {l r : IE} (h : stepC f sc (.bin op l r) e = true) {CC : Expr → Prop} (kk : ∀ l' r' p,f sc l l' = true → f sc r r' = true → CC (.BinOp l' op r' p)) : CC e :=
  by obtain ⟨z,h1,h⟩ := optB_some h; exact let ⟨p,e1⟩ := binE_eq h1; let h := and3 h
  cps (by rw [e1,beq_iff_eq.mp h.1]) (kk z.1 z.2.2 p h.2.1 h.2.2)
theorem inv_cmp {op : CmpOp} {l r : IE} (h : stepC f sc (.cmp l op r) e = true) {CC : Expr → Prop} (kk : ∀ l' r' p,f sc l l' = true → f sc r r' = true → behindInMarks op r' = false → CC (.Compare l' [op] [r'] p)) : CC e :=
  by obtain ⟨z,h1,h⟩ := optB_some h; exact let ⟨p,e1⟩ := cmpE_eq h1; let ⟨_,h2,h⟩ := optB_some h; let ⟨r',h3,h⟩ := optB_some h; let h := and4 h
  cps (by rw [e1,one1_eq h2,one1_eq h3,beq_iff_eq.mp h.1]) (kk z.1 r' p h.2.1 h.2.2.1 (not_f h.2.2.2))
theorem inv_chain {o1 o2 : CmpOp} {l m r : IE} (h : stepC f sc (.chain l o1 m o2 r) e = true) {CC : Expr → Prop} (kk : ∀ l' m' r' p,f sc l l' = true → f sc m m' = true → f sc r r' = true → lastMarks [o1,o2] [m',r'] = false → CC (.Compare l' [o1,o2] [m',r'] p)) : CC e :=
  by obtain ⟨z,h1,h⟩ := optB_some h; exact let ⟨p,e1⟩ := cmpE_eq h1; let ⟨_,h2,h⟩ := optB_some h; let ⟨y,h3,h⟩ := optB_some h; let h := and4 h; let g := and3 h.1
  cps (by rw [e1,two2_eq h2,two2_eq h3,beq_iff_eq.mp g.1,beq_iff_eq.mp g.2.1]) (kk z.1 y.1 y.2 p g.2.2 h.2.1 h.2.2.1 (not_f h.2.2.2))
theorem inv_not {x : IE} (h : stepC f sc (.not x) e = true) {CC : Expr → Prop} (kk : ∀ x' p,f sc x x' = true → CC (.UnaryOp .Not x' p)) : CC e :=
  by obtain ⟨z,h1,h⟩ := optB_some h; exact let ⟨p,e1⟩ := unE_eq h1
  cps (by rw [e1,beq_iff_eq.mp (and2 h).1]) (kk z.2 p ((and2 h).2))
theorem inv_and {es : List IE} (h : stepC f sc (.and es) e = true) {CC : Expr → Prop} (kk : ∀ es' p,chkL (f sc) es es' = true → CC (.BoolOp .And es' p)) : CC e :=
  by obtain ⟨z,h1,h⟩ := optB_some h; exact let ⟨p,e1⟩ := boolE_eq h1
  cps (by rw [e1,beq_iff_eq.mp (and2 h).1]) (kk z.2 p ((and2 h).2))
theorem inv_or {es : List IE} (h : stepC f sc (.or es) e = true) {CC : Expr → Prop} (kk : ∀ es' p,chkL (f sc) es es' = true → CC (.BoolOp .Or es' p)) : CC e :=
  by obtain ⟨z,h1,h⟩ := optB_some h; exact let ⟨p,e1⟩ := boolE_eq h1
  cps (by rw [e1,beq_iff_eq.mp (and2 h).1]) (kk z.2 p ((and2 h).2))
theorem inv_ife {t a b : IE} (h : stepC f sc (.ife t a b) e = true) {CC : Expr → Prop} (kk : ∀ t' a' b' p,f sc t t' = true → f sc a a' = true → f sc b b' = true → CC (.IfExp t' a' b' p)) : CC e :=
  by obtain ⟨z,h1,h⟩ := optB_some h; exact let ⟨p,e1⟩ := ifE_eq h1
  cps e1 (kk z.1 z.2.1 z.2.2 p ((and3 h).1) ((and3 h).2.1) ((and3 h).2.2))
theorem nodebug {x : Str} (h : notDebug x = true) : (x == ("__debug__" : Str)) = false := by simpa [notDebug] using h
theorem glob_of {x : Str} (h : sc.glob x = true) : sc.names.lookup x = some .globalImplicit ∧ notDebug x = true := ⟨beq_iff_eq.mp (and2 h).1,(and2 h).2⟩
end
section
variable {prog : Program} {w : World} {A : Around} {E : Value → Shared → Prop}
theorem binI_sound {op : Operator} {i j k : Int} {p : Prop} {t u : Tok} {s : Shared} {Q : Value → Shared → Prop} (e : binI op i j = some (k,p)) (hp : p) (h : ∀ t tk,Q (.int k t) { s with toks := tk }) :
    wpAny (model prog w) A (binaryOp op (.int i t) (.int j u)) Q E s := by
  cases op <;> first | exact noneX e | skip
  all_goals (cases Prod.mk.inj (Option.some.inj e) with | _ e1 e2 => ?_; subst e1; subst e2)
  · (refine PyProof.Rows.add_int ?_; exact h _ _)
  · (refine PyProof.Rows.sub_int ?_; exact h _ _)
  · (refine PyProof.Rows.mul_int ?_ ?_ <;> first | exact hp | exact h _ _)
  · (refine mod_int' ?_ ?_ <;> first | exact hp | exact h _ _)
  · (refine pow_int_small ?_ ?_ ?_ ?_ <;> first | exact hp.1 | exact hp.2.1 | exact hp.2.2 | exact h _ _)
  · (refine lshift_int ?_ ?_ ?_ <;> first | exact hp.1 | exact hp.2 | exact h _ _)
  · (refine rshift_int ?_ ?_ <;> first | exact hp | exact h _ _)
  · (refine and_int ?_; exact h _ _)
  · (refine floordiv_int ?_ ?_ ?_ <;> first | exact hp.1 | exact Or.inl (PyProof.noPylong_of_log2 hp.2) | exact h _ _)
theorem cmpI_sound {op : CmpOp} {i j : Int} {c : Bool} {t u : Tok} {s : Shared} {Q : Value → Shared → Prop} (e : cmpI op i j = some c) (h : Q (.bool c) s) : wpAny (model prog w) A (compareOp op (.int i t) (.int j u)) Q E s := by
  cases op <;> first | exact noneX e | skip
  all_goals cases Option.some.inj e
  · exact PyProof.Rows.eq_int (by rw [show (i == j) = decide (i = j) from rfl]; exact h)
  · exact PyProof.Rows.ne_int (by rw [show (i != j) = !decide (i = j) from rfl]; exact h)
  · (refine PyProof.Rows.lt_int ?_; exact h)
  · (refine PyProof.Rows.le_int ?_; exact h)
  · (refine PyProof.Rows.gt_int ?_; exact h)
  · (refine PyProof.Rows.ge_int ?_; exact h)
theorem str_beq (x y : Str) : (x.cps.toList == y.cps.toList) = decide (x = y) := by
  rw [Bool.eq_iff_iff,beq_iff_eq,decide_eq_true_eq]
  exact ⟨fun h => Str.ext' (Array.toList_inj.mp h),fun h => by rw [h]⟩
theorem cmpS_sound {op : CmpOp} {x y : Str} {c : Bool} {t u : Tok} {s : Shared} {Q : Value → Shared → Prop} (e : cmpS op x y = some c) (h : Q (.bool c) s) : wpAny (model prog w) A (compareOp op (.str x t) (.str y u)) Q E s := by
  cases op <;> first | exact noneX e | skip
  all_goals cases Option.some.inj e
  · exact PySem.P.eq_str (by rw [str_beq]; exact h)
  · exact PySem.P.ne_str (by rw [show (x.cps.toList != y.cps.toList) = !(x.cps.toList == y.cps.toList) from rfl,str_beq]; exact h)
end
section
variable {ql : Bool} {prog : Program} {w : World} {K : Frag} {p : Program} {loose : List Str} {mean : ExcName → Option Value} {mg mb : Str → Option Value} {D : Nat}
  {t : Cxt} {H : MH} {wd : Wd} {s : Shared} {Q : AV → MH → Prop} {X : Nat → MH → Prop}
theorem RepS.toks {c : FrameCx} {P : Params} {m : Str → Option Value} {Y : Led} {H : MH} {wd : Wd} {s : Shared} {tk : Nat} (S : RepS c P m Y H wd s.heap) : RepS c P m Y H wd ({ s with toks := tk } : Shared).heap := S
theorem constIs_n {k : Const} (e : constIs .none k = true) : k = .none := by cases k <;> first | rfl | exact falseX e
theorem constIs_b {b : Bool} {k : Const} (e : constIs (.bool b) k = true) : k = .bool b := by cases k <;> first | exact falseX e | exact congrArg _ (beq_iff_eq.mp e).symm
theorem constIs_i {b : Int} {k : Const} (e : constIs (.int b) k = true) : k = .int b := by cases k <;> first | exact falseX e | exact congrArg _ (beq_iff_eq.mp e).symm
theorem constIs_s {b : Str} {k : Const} (e : constIs (.str b) k = true) : k = .str b := by cases k <;> first | exact falseX e | exact congrArg _ (beq_iff_eq.mp e).symm
theorem e_const {v : AV} {k : Const} {n : Nat} {ps : Pos} (e : constIs v k = true) (S : RepS t.c w.params t.m t.Y H wd s.heap) (q : Q v H) : Tri prog w ql t wd s (eval (.Constant k n ps) t.env) Q X := by
  cases v <;> first | exact falseX e | skip
  · cases constIs_n e; exact fun Qr Er hK hX => wpAny_Constant_none (hK _ _ _ _ _ q (.refl ..) S (.none .nil))
  · cases constIs_b e; exact fun Qr Er hK hX => wpAny_Constant_bool (hK _ _ _ _ _ q (.refl ..) S (.bool _ .nil))
  · cases constIs_i e; exact fun Qr Er hK hX => wpAny_Constant_int (hK _ _ _ _ _ q .tk S (.int _ _ .nil))
  · cases constIs_s e; exact fun Qr Er hK hX => Calls.Constant_str (hK _ _ _ _ _ q .tk S (.str _ _ .nil))
theorem e_neg {i k : Int} {n : Nat} {ps qs : Pos} (e : i = -k) (S : RepS t.c w.params t.m t.Y H wd s.heap) (q : Q (.int i) H) : Tri prog w ql t wd s (eval (.UnaryOp .USub (.Constant (.int k) n ps) qs) t.env) Q X := by
  intro Qr Er hK hX
  subst e
  refine UnaryOp_ (wpAny_Constant_int ?_)
  refine PyProof.Rows.neg_int ?_
  exact hK _ _ _ _ _ q .tk S (.int _ _ .nil)
theorem e_loc {k : Nat} {v : AV} {x : Str} {ps : Pos} (L : LocOk prog w t wd) (hl : t.l[k]? = some (some v)) (hx : t.sc.slots[k]? = some x) (S : RepS t.c w.params t.m t.Y H wd s.heap) (q : Q v H) : Tri prog w ql t wd s (eval (.Name x ps) t.env) Q X := by
  intro Qr Er hK hX
  refine byC fun no9 => ?_
  obtain ⟨y,V,e1,r,rd,_⟩ := L k v hl
  refine no9 ?_
  clear no9
  cases hx.symm.trans e1
  exact rd S.fr (fun q hq => (S.nw q (by simp [hq])).1) (fun q hq _ => (S.nw q (by simp [hq])).1) (hK _ _ _ _ _ q (.refl ..) S r)
theorem e_bin {f : EF} {n : Nat} {op : Operator} {l r : IE} {l' r' : Expr} {ps : Pos} (hf : ESound prog w K p loose mean mg mb ql D f) (hl : chkE n t.sc l l' = true) (hr : chkE n t.sc r r' = true) (O : Cxt.Ok K p loose mean mg mb D t)
    (S : RepS t.c w.params t.m t.Y H wd s.heap) (L : LocOk prog w t wd) {R : AV → AV → MH → Prop} (q : f l t.l H (fun x H1 => f r t.l H1 (fun y H2 => R x y H2) X) X)
    (hop : ∀ x y H2 wd2 s2 V W,R x y H2 → RepS t.c w.params t.m t.Y H2 wd2 s2.heap → wd2.rep w.params [x] [V] → wd2.rep w.params [y] [W] → Tri prog w ql t wd2 s2 (binaryOp op V W) Q X) :
    Tri prog w ql t wd s (eval (.BinOp l' op r' ps) t.env) Q X := by
  intro Qr Er hK hX
  refine wpAny_BinOp ?_
  refine hf n l l' t hl O H wd s _ X S L q _ _ (fun x H1 wd1 s1 V q1 st1 S1 r1 => ?_) hX
  refine hf n r r' t hr O H1 wd1 s1 _ X S1 (L.step prog w st1) q1 _ _ (fun y H2 wd2 s2 W q2 st2 S2 r2 => ?_) (on_step st1 hX)
  exact hop x y H2 wd2 s2 V W q2 S2 (r1.step st2) r2 _ _ (fun v H' wd' s' V' q' st' S' r' => hK v H' wd' s' V' q' (st1.trans (st2.trans st')) S' r') (on_step (st1.trans st2) hX)
theorem Tri.here {tree : Sem Value} (S : RepS t.c w.params t.m t.Y H wd s.heap) (h : ∀ (Qr Er : Value → Shared → Prop),(∀ v V tk,Q v H → wd.rep w.params [v] [V] → Qr V { s with toks := tk }) → wpAny (model prog w) t.c.A tree Qr Er s) : Tri prog w ql t wd s tree Q X := fun Qr Er hK hX =>
  h Qr Er fun v V tk q r => hK v H wd _ V q .tk S r
theorem _root_.Mine.Internal.RepS.addI {ql : Bool} {c : FrameCx} {P : Params} {m : Str → Option Value} {Y : Led} {H : MH} {wd : Wd} {s : Shared} {h' : Heap} {tk : Nat} {a : Addr} {o : Obj} (S : RepS c P m Y H wd s.heap) (F : Fr wd.g c.L h' m) (N : News wd.g c.L h' ((a,o) :: wd.all Y)) (hf : ∀ q ∈ wd.all Y,q.1 ≠ a) :
    ∃ wd',RepS c P m Y H wd' h' ∧ Step ql c wd s wd' { s with heap := h',toks := tk } ∧ (a,o) ∈ wd'.I ∧ wd'.Mo = wd.Mo :=
  ⟨_,(S.newI F N hf).1,⟨.mk,.refl,(S.newI F N hf).2,fun _ => rfl⟩,.head _,rfl⟩
theorem _root_.Mine.Internal.RepS.addM {ql : Bool} {c : FrameCx} {P : Params} {m : Str → Option Value} {Y : Led} {H : MH} {wd : Wd} {s : Shared} {h' : Heap} {tk : Nat} {a : Addr} {vs : List Value} {n : Nat} {l : List AV} (S : RepS c P m Y H wd s.heap) (F : Fr wd.g c.L h' m) (N : News wd.g c.L h' ((a,lstO vs n) :: wd.all Y)) (hf : ∀ q ∈ wd.all Y,q.1 ≠ a) (hc : Rs P wd.I [] l vs) :
    ∃ wd',RepS c P m Y (H ++ [l]) wd' h' ∧ Step ql c wd s wd' { s with heap := h',toks := tk } ∧ wd'.rep P [.mu H.length] [.ref a] := by
  refine ⟨_,(S.newM F N hf hc).1,⟨.mk,.refl,(S.newM F N hf hc).2,fun _ => rfl⟩,.mu ?_ .nil⟩
  rw [Wd.xs,List.map_append,← S.mr.length,List.getElem?_append_right (by simp)]
  simp
theorem binV_add {op : Operator} {x y : Str} {Q : AV → Prop} (q : binV op (.str x) (.str y) Q) : op = .Add ∧ x.length + y.length ≤ sizeLine ∧ Q (.str (x ++ y)) := by
  cases op <;> first | exact ⟨rfl,q⟩ | exact False.elim q
theorem binV_mul {op : Operator} {x : Str} {n : Int} {Q : AV → Prop} (q : binV op (.str x) (.int n) Q) : op = .Mult ∧ (0 ≤ n ∧ n ≤ 1000 ∧ x.length ≤ 16) ∧ Q (.str (Txt.mul x n)) := by
  cases op <;> first | exact ⟨rfl,q⟩ | exact False.elim q
theorem binV_app {op : Operator} {x y : List AV} {Q : AV → Prop} (q : binV op (.lst x) (.lst y) Q) : op = .Add ∧ x.length + y.length ≤ 100000 ∧ Q (.lst (x ++ y)) := by
  cases op <;> first | exact ⟨rfl,q⟩ | exact False.elim q
theorem bin_sound {op : Operator} {a b : AV} {V W : Value} (q : binV op (view H a) (view H b) fun v => Q v H) (S : RepS t.c w.params t.m t.Y H wd s.heap) (ra : wd.rep w.params [a] [V]) (rb : wd.rep w.params [b] [W]) : Tri prog w ql t wd s (binaryOp op V W) Q X := by
  generalize ea : view H a = x at q
  generalize eb : view H b = y at q
  cases x <;> first | exact False.elim q | (cases y <;> first | exact False.elim q | skip)
  · rename_i i j
    obtain ⟨t1,rfl⟩ := view_i ra ea
    obtain ⟨t2,rfl⟩ := view_i rb eb
    have q : (match binI op i j with | some (k,p) => p ∧ Q (.int k) H | none => False) := q
    cases hk : binI op i j with
    | none => rw [hk] at q; exact q.elim
    | some z => rw [hk] at q; exact Tri.here S fun Qr Er hK => binI_sound hk q.1 fun t tk => hK _ _ _ q.2 (.int _ _ .nil)
  · rename_i x n
    obtain ⟨t1,rfl⟩ := view_s ra ea
    obtain ⟨t2,rfl⟩ := view_i rb eb
    obtain ⟨rfl,q⟩ := binV_mul q
    exact Tri.here S fun Qr Er hK => SB.mul (mulOk_of 16 1000 q.1.2.2 (by have := q.1.2.1; omega) (by have := q.1.1; lia) (by decide) (by decide)) fun t' tk => hK _ _ _ q.2 (.str _ _ .nil)
  · obtain ⟨t1,rfl⟩ := view_s ra ea
    obtain ⟨t2,rfl⟩ := view_s rb eb
    obtain ⟨rfl,q1,q2⟩ := binV_add q
    exact Tri.here S fun Qr Er hK => by
      refine PyProof.Rows.add_str ?_ ?_
      · exact fun t' tk => hK _ _ _ q2 (.str _ _ .nil)
      · exact q1
  · obtain ⟨d1,vs,n1,rfl,m1,r1⟩ := view_lst S.mr ra ea
    refine byC fun no9 => ?_
    obtain ⟨d2,ws,n2,rfl,m2,r2⟩ := view_lst S.mr rb eb
    refine no9 ?_
    clear no9
    obtain ⟨rfl,q⟩ := binV_app q
    intro Qr Er hK hX
    have hz : vs.length + ws.length ≤ sizeLine := by rw [r1.length,r2.length]; exact Nat.le_trans q.1 (by decide)
    refine add_lists S.fr S.nw ⟨_,S.isList m1,rfl,_,rfl⟩ ⟨_,S.isList m2,rfl,_,rfl⟩ (fun h' F' N' => ?_) hz
    obtain ⟨wd',S',st',m',_⟩ := S.addI (tk := s.toks) F' N' (fun z hz => Nat.ne_of_lt (Heap.lt_size (S.nw z hz).1))
    exact hK _ _ _ _ _ q.2 st' S' (.lst m' ((r1.app r2).step st') .nil)
end
theorem strsOf_are {P : Params} {I : Led} {xs : List Addr} : ∀ {l : List AV} {ys : List Str} {vs : List Value},strsOf l = some ys → Rs P I xs l vs → StrsAre vs ys := by
  intro l
  induction l with
  | nil => intro ys vs e r; cases Option.some.inj e; cases r.nil0; exact .nil
  | cons v l ih =>
    intro ys vs e r
    cases v <;> first | exact noneX e | skip
    rename_i y
    have e : (match strsOf l with | some l => some (y :: l) | none => none) = some ys := e
    cases hl : strsOf l with
    | none => rw [hl] at e; exact noneX e
    | some l' =>
      rw [hl] at e
      cases Option.some.inj e
      obtain ⟨V,R',rfl,h1,r'⟩ := r.uncons
      obtain ⟨u,rfl⟩ := h1.s
      exact .cons _ u (ih hl r')
section
variable {ql : Bool} {prog : Program} {w : World} {K : Frag} {p : Program} {loose : List Str} {mean : ExcName → Option Value} {mg mb : Str → Option Value} {D : Nat}
  {t : Cxt} {H : MH} {wd : Wd} {s : Shared} {Q : AV → MH → Prop} {X : Nat → MH → Prop}
theorem RepS.allI {c : FrameCx} {P : Params} {m : Str → Option Value} {Y : Led} {H : MH} {wd : Wd} {h : Heap} (S : RepS c P m Y H wd h) : ∀ q ∈ wd.I,h.get? q.1 = some q.2 := fun q hq => (S.nw q (by simp [hq])).1
theorem RepS.allM {c : FrameCx} {P : Params} {m : Str → Option Value} {Y : Led} {H : MH} {wd : Wd} {h : Heap} (S : RepS c P m Y H wd h) : ∀ q ∈ wd.I ++ wd.Mo,h.get? q.1 = some q.2 := fun q hq => (S.nw q (by rcases List.mem_append.mp hq with z | z <;> simp [z])).1
theorem isNone_of {P : Params} {a : AV} {A : Value} {c : Bool} (r : wd.rep P [a] [A]) (e : isNone a = some c) : (c = true → A = .none) ∧ (c = false → A ≠ .none) := by
  have key : A ≠ .none → some false = some c → (c = true → A = .none) ∧ (c = false → A ≠ .none) := fun h e => by cases Option.some.inj e; exact ⟨fun h => falseX h,fun _ => h⟩
  cases a <;> first | exact noneX e | skip
  · cases Option.some.inj e; exact ⟨fun _ => RepV.n r,fun h => falseX h.symm⟩
  · exact key (by rw [RepV.b r]; exact Value.noConfusion) e
  · exact key (by obtain ⟨t,h⟩ := RepV.i r; rw [h]; exact Value.noConfusion) e
  · exact key (by obtain ⟨t,h⟩ := RepV.s r; rw [h]; exact Value.noConfusion) e
  · exact key (by obtain ⟨_,_,_,h,_⟩ := RepV.tu r; rw [h]; exact Value.noConfusion) e
  · exact key (by obtain ⟨_,_,_,h,_⟩ := RepV.ls r; rw [h]; exact Value.noConfusion) e
  · exact key (by obtain ⟨_,_,_,_,_,h,_⟩ := RepV.ins r; rw [h]; exact Value.noConfusion) e
theorem isNone_view {P : Params} {a x : AV} {A : Value} {c : Bool} (mr : MoR P wd.I H wd.Mo) (r : wd.rep P [a] [A]) (ea : view H a = x) (e : isNone x = some c) : (c = true → A = .none) ∧ (c = false → A ≠ .none) := by
  by_cases h : ∃ xs,x = .lst xs
  · obtain ⟨xs,rfl⟩ := h
    obtain ⟨d,vs,n,rfl,_,_⟩ := view_lst mr r ea
    cases Option.some.inj e
    exact ⟨fun h => falseX h,fun _ => Value.noConfusion⟩
  · exact isNone_of (view_ne r ea fun xs e => h ⟨xs,e⟩) e
theorem isO_inv {op : CmpOp} {c : Bool} {k : Bool → Prop} (q : isO op c k) : (op = .Is ∧ k c) ∨ (op = .IsNot ∧ k (!c)) := by
  cases op <;> first | exact .inl ⟨rfl,q⟩ | exact .inr ⟨rfl,q⟩ | exact False.elim q
theorem eqO_inv {op : CmpOp} {c : Bool} {k : Bool → Prop} (q : eqO op c k) : (op = .Eq ∧ k c) ∨ (op = .NotEq ∧ k (!c)) := by
  cases op <;> first | exact .inl ⟨rfl,q⟩ | exact .inr ⟨rfl,q⟩ | exact False.elim q
theorem inO_inv {op : CmpOp} {x : Str} {l : List Str} {k : Bool → Prop} (q : inO op x l k) : (op = .In ∧ k (l.any (· == x))) ∨ (op = .NotIn ∧ k (!(l.any (· == x)))) := by
  cases op <;> first | exact .inl ⟨rfl,q⟩ | exact .inr ⟨rfl,q⟩ | exact False.elim q
theorem cmpB_inv {op : CmpOp} {x y c : Bool} {k : Bool → Prop} (e : cmpB op x y = some c) (q : k c) : (op = .Eq ∧ k (x == y)) ∨ (op = .NotEq ∧ k (x != y)) := by
  cases op <;> first | exact noneX e | (cases Option.some.inj e; first | exact .inl ⟨rfl,q⟩ | exact .inr ⟨rfl,q⟩)
inductive CmpIs (op : CmpOp) (k : Bool → Prop) : AV → AV → Prop
  | none {x} : optP (isNone x) (fun c => isO op c k) → CmpIs op k x .none
  | int {i j} : optP (cmpI op i j) k → CmpIs op k (.int i) (.int j)
  | str {i j} : optP (cmpS op i j) k → CmpIs op k (.str i) (.str j)
  | bool {i j} : optP (cmpB op i j) k → CmpIs op k (.bool i) (.bool j)
  | bytes {i j} : eqO op (decide (i = j)) k → CmpIs op k (.bytes i) (.bytes j)
  | inl {x ys} : optP (strsOf ys) (fun l => inO op x l k) → CmpIs op k (.str x) (.lst ys)
  | int' {x ys} : optP (strsOf ys) (fun l => inO op x l k) → CmpIs op k (.str x) (.tup ys)
  | lst {xs ys d e} : IsPy xs d → IsPy ys e → PySem.SeqAt.shaped (.list d) = true → PySem.SeqAt.shaped (.list e) = true → eqO op (PyData.eqvAll d e) k → CmpIs op k (.lst xs) (.lst ys)
  | tup {xs ys d e} : IsPy xs d → IsPy ys e → PySem.SeqAt.shaped (.tuple d) = true → PySem.SeqAt.shaped (.tuple e) = true → eqO op (PyData.eqvAll d e) k → CmpIs op k (.tup xs) (.tup ys)
theorem cmpV_inv {op : CmpOp} {x y : AV} {k : Bool → Prop} (q : cmpV op x y k) : CmpIs op k x y := by
  cases y <;> first | exact .none q | exact False.elim q | (cases x <;> first | exact False.elim q | exact .int q | exact .str q | exact .bool q | exact .bytes q | exact .inl q | exact .int' q | skip)
  · obtain ⟨d,e,i1,i2,h1,h2,q⟩ := q; exact .tup i1 i2 h1 h2 q
  · obtain ⟨d,e,i1,i2,h1,h2,q⟩ := q; exact .lst i1 i2 h1 h2 q
theorem bytes_beq {xs ys : List Int} {b1 b2 : Array UInt8} (e1 : b1.toList.map (fun b => (b.toNat : Int)) = xs) (e2 : b2.toList.map (fun b => (b.toNat : Int)) = ys) : (b1.toList == b2.toList) = decide (xs = ys) := by
  rw [Bool.eq_iff_iff,beq_iff_eq,decide_eq_true_eq,← e1,← e2]
  exact ⟨fun h => by rw [h],(List.map_inj_right fun x y hxy => UInt8.toNat_inj.mp (Int.ofNat.inj hxy)).mp⟩
theorem shaped_room {A : Around} (h : t.c.un + 8 * D + 200 < cLine) : t.c.A.units + 64 < cLine := by
  exact Nat.lt_of_le_of_lt (Nat.add_le_add (Nat.le_add_right _ _) (by decide : 64 ≤ 200)) h
theorem cmp_sound {op : CmpOp} {a b : AV} {V W : Value} {k : Bool → Prop} (q : cmpV op (view H a) (view H b) k) (S : RepS t.c w.params t.m t.Y H wd s.heap) (ra : wd.rep w.params [a] [V]) (rb : wd.rep w.params [b] [W]) (hu : t.c.un + 8 * D + 200 < cLine)
    {Qr Er : Value → Shared → Prop} (hK : ∀ c tk,k c → Qr (.bool c) { s with toks := tk }) : wpAny (model prog w) t.c.A (compareOp op V W) Qr Er s := by
  have q := cmpV_inv q
  generalize ea : view H a = x at q
  generalize eb : view H b = y at q
  cases q with
  | none q =>
    cases view_n rb eb
    obtain ⟨c,hc,q⟩ := optP_some q
    have key := isNone_view S.mr ra ea hc
    rcases isO_inv q with ⟨rfl,hk⟩ | ⟨rfl,hk⟩
    · cases c with
      | true => rw [key.1 rfl]; exact is_none_none (hK _ s.toks hk)
      | false => exact is_none_ne (key.2 rfl) (hK _ s.toks hk)
    · cases c with
      | true => rw [key.1 rfl]; exact isnot_none_none (hK _ s.toks hk)
      | false => exact isnot_none_ne (key.2 rfl) (hK _ s.toks hk)
  | int q =>
    obtain ⟨t1,rfl⟩ := view_i ra ea
    obtain ⟨t2,rfl⟩ := view_i rb eb
    obtain ⟨c,hc,hk⟩ := optP_some q
    exact cmpI_sound hc (hK c s.toks hk)
  | str q =>
    obtain ⟨t1,rfl⟩ := view_s ra ea
    obtain ⟨t2,rfl⟩ := view_s rb eb
    obtain ⟨c,hc,hk⟩ := optP_some q
    exact cmpS_sound hc (hK c s.toks hk)
  | bool q =>
    cases view_b ra ea
    cases view_b rb eb
    obtain ⟨c,hc,hk⟩ := optP_some q
    rcases cmpB_inv hc hk with ⟨rfl,hk⟩ | ⟨rfl,hk⟩
    · exact PyProof.Rows.eq_bool (hK _ s.toks hk)
    · exact PyProof.Rows.ne_bool (hK _ s.toks hk)
  | @bytes xs ys q =>
    obtain ⟨b1,t1,rfl,e1⟩ := view_by ra ea
    obtain ⟨b2,t2,rfl,e2⟩ := view_by rb eb
    have hb := bytes_beq e1 e2
    rcases eqO_inv q with ⟨rfl,hk⟩ | ⟨rfl,hk⟩
    · exact PySem.W.eq_bytes (by rw [hb]; exact hK _ s.toks hk)
    · exact PySem.W.ne_bytes (by rw [show (b1.toList != b2.toList) = !(b1.toList == b2.toList) from rfl,hb]; exact hK _ s.toks hk)
  | inl q =>
    obtain ⟨t1,rfl⟩ := view_s ra ea
    obtain ⟨d,vs,n,rfl,m1,r2⟩ := view_lst S.mr rb eb
    obtain ⟨l,hl',q⟩ := optP_some q
    rcases inO_inv q with ⟨rfl,hk⟩ | ⟨rfl,hk⟩
    · exact in_list_strs ⟨_,S.isList m1,rfl,_,rfl⟩ (strsOf_are hl' r2) (hK _ s.toks hk)
    · exact notin_list_strs ⟨_,S.isList m1,rfl,_,rfl⟩ (strsOf_are hl' r2) (hK _ s.toks hk)
  | int' q =>
    obtain ⟨t1,rfl⟩ := view_s ra ea
    obtain ⟨d,vs,n,rfl,m1,r2⟩ := view_t rb eb
    obtain ⟨l,hl',q⟩ := optP_some q
    rcases inO_inv q with ⟨rfl,hk⟩ | ⟨rfl,hk⟩
    · exact in_tuple_strs ⟨_,S.allI _ m1,rfl,_,rfl⟩ (strsOf_are hl' r2) (hK _ s.toks hk)
    · exact notin_tuple_strs ⟨_,S.allI _ m1,rfl,_,rfl⟩ (strsOf_are hl' r2) (hK _ s.toks hk)
  | lst i1 i2 h1 h2 q =>
    obtain ⟨d1,vs,n1,rfl,m1,r1⟩ := view_lst S.mr ra ea
    obtain ⟨d2,ws,n2,rfl,m2,r2⟩ := view_lst S.mr rb eb
    obtain ⟨as,ha⟩ := isPy_reads S.allI i1 r1
    obtain ⟨bs,hb⟩ := isPy_reads S.allI i2 r2
    rcases eqO_inv q with ⟨rfl,hk⟩ | ⟨rfl,hk⟩
    · exact eq_dataH (.list (S.isList m1) rfl rfl ha) (.list (S.isList m2) rfl rfl hb) h1 h2 (shaped_room (D := D) (A := t.c.A) hu) (hK _ s.toks hk)
    · exact ne_dataH (.list (S.isList m1) rfl rfl ha) (.list (S.isList m2) rfl rfl hb) h1 h2 (shaped_room (D := D) (A := t.c.A) hu) (hK _ s.toks hk)
  | tup i1 i2 h1 h2 q =>
    obtain ⟨d1,vs,n1,rfl,m1,r1⟩ := view_t ra ea
    obtain ⟨d2,ws,n2,rfl,m2,r2⟩ := view_t rb eb
    obtain ⟨as,ha⟩ := isPy_reads S.allI i1 r1
    obtain ⟨bs,hb⟩ := isPy_reads S.allI i2 r2
    rcases eqO_inv q with ⟨rfl,hk⟩ | ⟨rfl,hk⟩
    · exact eq_dataH (.tuple (S.allI _ m1) rfl rfl ha) (.tuple (S.allI _ m2) rfl rfl hb) h1 h2 (shaped_room (D := D) (A := t.c.A) hu) (hK _ s.toks hk)
    · exact ne_dataH (.tuple (S.allI _ m1) rfl rfl ha) (.tuple (S.allI _ m2) rfl rfl hb) h1 h2 (shaped_room (D := D) (A := t.c.A) hu) (hK _ s.toks hk)
end
section
variable {ql : Bool} {prog : Program} {w : World} {K : Frag} {p : Program} {loose : List Str} {mean : ExcName → Option Value} {mg mb : Str → Option Value} {D : Nat}
  {t : Cxt} {H : MH} {wd : Wd} {s : Shared} {X : Nat → MH → Prop}
noncomputable abbrev XC (w : World) (ql : Bool) (t : Cxt) (wd : Wd) (s : Shared) (X : Nat → MH → Prop) (Er : Value → Shared → Prop) : Prop := ∀ cl H' wd' s' e,X cl H' → Step ql t.c wd s wd' s' → RC t.c w.params t.m t.Y H' wd' cl e s'.heap → Er e s'
theorem e_two {f : EF} {n : Nat} {l r : IE} {l' r' : Expr} (hf : ESound prog w K p loose mean mg mb ql D f) (hl : chkE n t.sc l l' = true) (hr : chkE n t.sc r r' = true) (O : Cxt.Ok K p loose mean mg mb D t)
    (S : RepS t.c w.params t.m t.Y H wd s.heap) (L : LocOk prog w t wd) {R : AV → AV → MH → Prop} (q : f l t.l H (fun x H1 => f r t.l H1 (fun y H2 => R x y H2) X) X) {P : Value → Value → Shared → Prop} {Er : Value → Shared → Prop}
    (hX : XC w ql t wd s X Er) (hop : ∀ x y H2 wd2 s2 V W,R x y H2 → Step ql t.c wd s wd2 s2 → RepS t.c w.params t.m t.Y H2 wd2 s2.heap → wd2.rep w.params [x] [V] → wd2.rep w.params [y] [W] → P V W s2) :
    wpAny (model prog w) t.c.A (eval l' t.env) (fun V s1 => wpAny (model prog w) t.c.A (eval r' t.env) (fun W s2 => P V W s2) Er s1) Er s := by
  refine hf n l l' t hl O H wd s _ X S L q _ _ (fun x H1 wd1 s1 V q1 st1 S1 r1 => ?_) hX
  refine hf n r r' t hr O H1 wd1 s1 _ X S1 (L.step prog w st1) q1 _ _ (fun y H2 wd2 s2 W q2 st2 S2 r2 => ?_) (on_step st1 hX)
  exact hop x y H2 wd2 s2 V W q2 (st1.trans st2) S2 (r1.step st2) r2
theorem tail_un (O : Cxt.Ok K p loose mean mg mb D t) : t.c.un + 8 * D + 200 < cLine := O.units
theorem e_cmp {f : EF} {n : Nat} {op : CmpOp} {l r : IE} {l' r' : Expr} {ps : Pos} {Q : AV → MH → Prop} (hf : ESound prog w K p loose mean mg mb ql D f) (hl : chkE n t.sc l l' = true) (hr : chkE n t.sc r r' = true) (hm : behindInMarks op r' = false) (O : Cxt.Ok K p loose mean mg mb D t)
    (S : RepS t.c w.params t.m t.Y H wd s.heap) (L : LocOk prog w t wd) (q : f l t.l H (fun x H1 => f r t.l H1 (fun y H2 => cmpV op (view H2 x) (view H2 y) fun c => Q (.bool c) H2) X) X) :
    Tri prog w ql t wd s (eval (.Compare l' [op] [r'] ps) t.env) Q X := by
  intro Qr Er hK hX
  refine wpAny_Compare1 ?_ hm
  refine e_two hf hl hr O S L q hX fun x y H2 wd2 s2 V W q2 st2 S2 r1 r2 => ?_
  exact cmp_sound q2 S2 r1 r2 O.units fun c tk hc => hK _ _ _ _ _ hc (st2.trans .tk) S2 (.bool _ .nil)
theorem b_cmp {f : EF} {n : Nat} {op : CmpOp} {l r : IE} {l' r' : Expr} {ps : Pos} {whole : Sem Value} {Q : Bool → MH → Prop} (hf : ESound prog w K p loose mean mg mb ql D f) (hl : chkE n t.sc l l' = true) (hr : chkE n t.sc r r' = true) (hm : behindInMarks op r' = false) (O : Cxt.Ok K p loose mean mg mb D t)
    (S : RepS t.c w.params t.m t.Y H wd s.heap) (L : LocOk prog w t wd) (q : f l t.l H (fun x H1 => f r t.l H1 (fun y H2 => cmpV op (view H2 x) (view H2 y) fun c => Q c H2) X) X) :
    TriB prog w ql t wd s (isTrue (.Compare l' [op] [r'] ps) t.env whole) Q X := by
  intro Qr Er hK hX
  refine wpAny_isTrue_Compare1 ?_ hm
  refine e_two hf hl hr O S L q hX fun x y H2 wd2 s2 V W q2 st2 S2 r1 r2 => ?_
  exact cmp_sound q2 S2 r1 r2 O.units fun c tk hc => wpAny_truthy_bool (hK _ _ _ _ hc (st2.trans .tk) S2)
theorem b_plain {tree : Sem Value} {Q : Bool → MH → Prop} {e : Expr} (h : Tri prog w ql t wd s tree (fun v H' => isB v fun b => Q b H') X)
    (he : PySem.isTrue e t.env tree = (do let v ← tree; standAt e.pos; holding [v] (truthy v))) : TriB prog w ql t wd s (isTrue e t.env tree) Q X := by
  intro Qr Er hK hX
  refine isTrue_plain ?_ he
  refine h _ _ (fun v H' wd' s' V q st S' r => ?_) hX
  obtain ⟨b,rfl,hb⟩ := isB_some q
  cases RepV.b r
  exact wpAny_truthy_bool (hK _ _ _ _ hb st S')
theorem e_not {f : EF} {n : Nat} {x : IE} {x' : Expr} {ps : Pos} {Q : AV → MH → Prop} (hf : ESound prog w K p loose mean mg mb ql D f) (hx : chkE n t.sc x x' = true) (O : Cxt.Ok K p loose mean mg mb D t)
    (S : RepS t.c w.params t.m t.Y H wd s.heap) (L : LocOk prog w t wd) (q : f x t.l H (fun v H1 => isB v fun b => Q (.bool (!b)) H1) X) : Tri prog w ql t wd s (eval (.UnaryOp .Not x' ps) t.env) Q X := by
  intro Qr Er hK hX
  refine UnaryOp_ ?_
  refine hf n x x' t hx O H wd s _ X S L q _ _ (fun v H1 wd1 s1 V q1 st1 S1 r1 => ?_) hX
  obtain ⟨b,rfl,hb⟩ := isB_some q1
  cases RepV.b r1
  exact not_of (wpAny_truthy_bool (hK _ _ _ _ _ hb st1 S1 (.bool _ .nil)))
theorem b_not {f : EF} {n : Nat} {x : IE} {x' : Expr} {ps : Pos} {whole : Sem Value} {Q : Bool → MH → Prop} (hf : BSound prog w K p loose mean mg mb ql D f) (hx : chkE n t.sc x x' = true) (O : Cxt.Ok K p loose mean mg mb D t)
    (S : RepS t.c w.params t.m t.Y H wd s.heap) (L : LocOk prog w t wd) (q : f x t.l H (fun v H1 => isB v fun b => Q (!b) H1) X) : TriB prog w ql t wd s (isTrue (.UnaryOp .Not x' ps) t.env whole) Q X := by
  intro Qr Er hK hX
  refine isTrue_not ?_
  exact hf n x x' t hx O H wd s (fun b H1 => Q (!b) H1) X S L q _ _ (fun v H1 wd1 s1 q1 st1 S1 => hK _ _ _ _ q1 st1 S1) hX
theorem e_and {f : EF} {n : Nat} {ps : Pos} {Q : AV → MH → Prop} (hf : ESound prog w K p loose mean mg mb ql D f) (O : Cxt.Ok K p loose mean mg mb D t) : ∀ {es : List IE} {es' : List Expr} {H : MH} {wd : Wd} {s : Shared},chkL (chkE n t.sc) es es' = true →
    RepS t.c w.params t.m t.Y H wd s.heap → LocOk prog w t wd → ands f es t.l H Q X → Tri prog w ql t wd s (eval (.BoolOp .And es' ps) t.env) Q X
  | [],_,_,_,_,_,_,_,q => q.elim
  | [e],es',H,wd,s,h,S,L,q => by
    obtain ⟨b,rfl,ha⟩ := chkL_1 h
    intro Qr Er hK hX
    refine BoolOp_one ?_
    refine hf n e b t ha O H wd s _ X S L q _ _ (fun v H1 wd1 s1 V q1 st1 S1 r1 => ?_) hX
    obtain ⟨c,rfl,hc⟩ := isB_some q1
    exact hK _ _ _ _ _ hc st1 S1 r1
  | e :: e2 :: r,es',H,wd,s,h,S,L,q => by
    obtain ⟨b,b2,t2,rfl,ha,hr⟩ := chkL_2 h
    intro Qr Er hK hX
    refine BoolOp_and ?_
    refine hf n e b t ha O H wd s _ X S L q _ _ (fun v H1 wd1 s1 V q1 st1 S1 r1 => ?_) hX
    obtain ⟨c,rfl,hc⟩ := isB_some q1
    cases RepV.b r1
    refine wpAny_truthy_bool ?_
    cases c with
    | false => exact hK _ _ _ _ _ (hc.2 rfl) st1 S1 r1
    | true => exact e_and hf O (es := e2 :: r) hr S1 (L.step prog w st1) (hc.1 rfl) _ _ (fun v H' wd' s' V q' st' S' r' => hK v H' wd' s' V q' (st1.trans st') S' r') (on_step st1 hX)
theorem e_or {f : EF} {n : Nat} {ps : Pos} {Q : AV → MH → Prop} (hf : ESound prog w K p loose mean mg mb ql D f) (O : Cxt.Ok K p loose mean mg mb D t) : ∀ {es : List IE} {es' : List Expr} {H : MH} {wd : Wd} {s : Shared},chkL (chkE n t.sc) es es' = true →
    RepS t.c w.params t.m t.Y H wd s.heap → LocOk prog w t wd → ors f es t.l H Q X → Tri prog w ql t wd s (eval (.BoolOp .Or es' ps) t.env) Q X
  | [],_,_,_,_,_,_,_,q => q.elim
  | [e],es',H,wd,s,h,S,L,q => by
    obtain ⟨b,rfl,ha⟩ := chkL_1 h
    intro Qr Er hK hX
    refine BoolOp_one ?_
    refine hf n e b t ha O H wd s _ X S L q _ _ (fun v H1 wd1 s1 V q1 st1 S1 r1 => ?_) hX
    obtain ⟨c,rfl,hc⟩ := isB_some q1
    exact hK _ _ _ _ _ hc st1 S1 r1
  | e :: e2 :: r,es',H,wd,s,h,S,L,q => by
    obtain ⟨b,b2,t2,rfl,ha,hr⟩ := chkL_2 h
    intro Qr Er hK hX
    refine BoolOp_or ?_
    refine hf n e b t ha O H wd s _ X S L q _ _ (fun v H1 wd1 s1 V q1 st1 S1 r1 => ?_) hX
    obtain ⟨c,rfl,hc⟩ := isB_some q1
    cases RepV.b r1
    refine wpAny_truthy_bool ?_
    cases c with
    | true => exact hK _ _ _ _ _ (hc.1 rfl) st1 S1 r1
    | false => exact e_or hf O (es := e2 :: r) hr S1 (L.step prog w st1) (hc.2 rfl) _ _ (fun v H' wd' s' V q' st' S' r' => hK v H' wd' s' V q' (st1.trans st') S' r') (on_step st1 hX)
theorem b_and {f : EF} {n : Nat} {ps : Pos} {whole : Sem Value} {Q : Bool → MH → Prop} (hf : BSound prog w K p loose mean mg mb ql D f) (O : Cxt.Ok K p loose mean mg mb D t) : ∀ {es : List IE} {es' : List Expr} {H : MH} {wd : Wd} {s : Shared},chkL (chkE n t.sc) es es' = true →
    RepS t.c w.params t.m t.Y H wd s.heap → LocOk prog w t wd → ands f es t.l H (fun v H1 => isB v fun b => Q b H1) X → TriB prog w ql t wd s (isTrue (.BoolOp .And es' ps) t.env whole) Q X
  | [],_,_,_,_,_,_,_,q => q.elim
  | [e],es',H,wd,s,h,S,L,q => by
    obtain ⟨b,rfl,ha⟩ := chkL_1 h
    intro Qr Er hK hX
    refine isTrue_and ?_
    refine hf n e b t ha O H wd s Q X S L q _ _ (fun c H1 wd1 s1 q1 st1 S1 => ?_) hX
    have := hK c H1 wd1 s1 q1 st1 S1
    cases c with
    | true => exact isTrue_and_nil this
    | false => exact this
  | e :: e2 :: r,es',H,wd,s,h,S,L,q => by
    obtain ⟨b,t',rfl,ha,hr⟩ := chkL_cons h
    intro Qr Er hK hX
    refine isTrue_and ?_
    refine hf n e b t ha O H wd s (fun b H1 => brB b (ands f (e2 :: r) t.l H1 (fun v H1 => isB v fun b => Q b H1) X) (Q false H1)) X S L q _ _ (fun c H1 wd1 s1 q1 st1 S1 => ?_) hX
    cases c with
    | false => exact hK _ _ _ _ (q1.2 rfl) st1 S1
    | true => exact b_and hf O (es := e2 :: r) hr S1 (L.step prog w st1) (q1.1 rfl) _ _ (fun v H' wd' s' q' st' S' => hK v H' wd' s' q' (st1.trans st') S') (on_step st1 hX)
theorem b_or {f : EF} {n : Nat} {ps : Pos} {whole : Sem Value} {Q : Bool → MH → Prop} (hf : BSound prog w K p loose mean mg mb ql D f) (O : Cxt.Ok K p loose mean mg mb D t) : ∀ {es : List IE} {es' : List Expr} {H : MH} {wd : Wd} {s : Shared},chkL (chkE n t.sc) es es' = true →
    RepS t.c w.params t.m t.Y H wd s.heap → LocOk prog w t wd → ors f es t.l H (fun v H1 => isB v fun b => Q b H1) X → TriB prog w ql t wd s (isTrue (.BoolOp .Or es' ps) t.env whole) Q X
  | [],_,_,_,_,_,_,_,q => q.elim
  | [e],es',H,wd,s,h,S,L,q => by
    obtain ⟨b,rfl,ha⟩ := chkL_1 h
    intro Qr Er hK hX
    refine isTrue_or ?_
    refine hf n e b t ha O H wd s Q X S L q _ _ (fun c H1 wd1 s1 q1 st1 S1 => ?_) hX
    have := hK c H1 wd1 s1 q1 st1 S1
    cases c with
    | true => exact this
    | false => exact isTrue_or_nil this
  | e :: e2 :: r,es',H,wd,s,h,S,L,q => by
    obtain ⟨b,t',rfl,ha,hr⟩ := chkL_cons h
    intro Qr Er hK hX
    refine isTrue_or ?_
    refine hf n e b t ha O H wd s (fun b H1 => brB b (Q true H1) (ors f (e2 :: r) t.l H1 (fun v H1 => isB v fun b => Q b H1) X)) X S L q _ _ (fun c H1 wd1 s1 q1 st1 S1 => ?_) hX
    cases c with
    | true => exact hK _ _ _ _ (q1.1 rfl) st1 S1
    | false => exact b_or hf O (es := e2 :: r) hr S1 (L.step prog w st1) (q1.2 rfl) _ _ (fun v H' wd' s' q' st' S' => hK v H' wd' s' q' (st1.trans st') S') (on_step st1 hX)
theorem e_ife {f : EF} {n : Nat} {c a b : IE} {c' a' b' : Expr} {ps : Pos} {Q : AV → MH → Prop} (hf : ESound prog w K p loose mean mg mb ql D f) (hb : BSound prog w K p loose mean mg mb ql D f) (h1 : chkE n t.sc c c' = true) (h2 : chkE n t.sc a a' = true) (h3 : chkE n t.sc b b' = true) (O : Cxt.Ok K p loose mean mg mb D t)
    (S : RepS t.c w.params t.m t.Y H wd s.heap) (L : LocOk prog w t wd) (q : f c t.l H (fun v H1 => isB v fun c => brB c (f a t.l H1 Q X) (f b t.l H1 Q X)) X) : Tri prog w ql t wd s (eval (.IfExp c' a' b' ps) t.env) Q X := by
  intro Qr Er hK hX
  refine IfExp_ ?_
  refine hb n c c' t h1 O H wd s (fun c H1 => brB c (f a t.l H1 Q X) (f b t.l H1 Q X)) X S L q _ _ (fun v H1 wd1 s1 q1 st1 S1 => ?_) hX
  cases v with
  | true => exact hf n a a' t h2 O H1 wd1 s1 _ X S1 (L.step prog w st1) (q1.1 rfl) _ _ (fun v H' wd' s' V q' st' S' r' => hK v H' wd' s' V q' (st1.trans st') S' r') (on_step st1 hX)
  | false => exact hf n b b' t h3 O H1 wd1 s1 _ X S1 (L.step prog w st1) (q1.2 rfl) _ _ (fun v H' wd' s' V q' st' S' r' => hK v H' wd' s' V q' (st1.trans st') S' r') (on_step st1 hX)
theorem b_ife {f : EF} {n : Nat} {c a b : IE} {c' a' b' : Expr} {ps : Pos} {whole : Sem Value} {Q : Bool → MH → Prop} (hb : BSound prog w K p loose mean mg mb ql D f) (h1 : chkE n t.sc c c' = true) (h2 : chkE n t.sc a a' = true) (h3 : chkE n t.sc b b' = true) (O : Cxt.Ok K p loose mean mg mb D t)
    (S : RepS t.c w.params t.m t.Y H wd s.heap) (L : LocOk prog w t wd) (q : f c t.l H (fun v H1 => isB v fun c => brB c (f a t.l H1 (fun v H1 => isB v fun b => Q b H1) X) (f b t.l H1 (fun v H1 => isB v fun b => Q b H1) X)) X) : TriB prog w ql t wd s (isTrue (.IfExp c' a' b' ps) t.env whole) Q X := by
  intro Qr Er hK hX
  refine isTrue_IfExp ?_
  refine hb n c c' t h1 O H wd s (fun c H1 => brB c (f a t.l H1 (fun v H1 => isB v fun b => Q b H1) X) (f b t.l H1 (fun v H1 => isB v fun b => Q b H1) X)) X S L q _ _ (fun v H1 wd1 s1 q1 st1 S1 => ?_) hX
  cases v with
  | true => exact hb n a a' t h2 O H1 wd1 s1 _ X S1 (L.step prog w st1) (q1.1 rfl) _ _ (fun v H' wd' s' q' st' S' => hK v H' wd' s' q' (st1.trans st') S') (on_step st1 hX)
  | false => exact hb n b b' t h3 O H1 wd1 s1 _ X S1 (L.step prog w st1) (q1.2 rfl) _ _ (fun v H' wd' s' q' st' S' => hK v H' wd' s' q' (st1.trans st') S') (on_step st1 hX)
end
section
variable {ql : Bool} {prog : Program} {w : World} {K : Frag} {p : Program} {loose : List Str} {mean : ExcName → Option Value} {mg mb : Str → Option Value} {D : Nat}
  {t : Cxt} {H : MH} {wd : Wd} {s : Shared} {X : Nat → MH → Prop} {Q : AV → MH → Prop}
theorem e_chain {f : EF} {n : Nat} {o1 o2 : CmpOp} {l m r : IE} {l' m' r' : Expr} {ps : Pos} (hf : ESound prog w K p loose mean mg mb ql D f) (hl : chkE n t.sc l l' = true) (hm : chkE n t.sc m m' = true) (hr : chkE n t.sc r r' = true) (hk : lastMarks [o1,o2] [m',r'] = false) (O : Cxt.Ok K p loose mean mg mb D t)
    (S : RepS t.c w.params t.m t.Y H wd s.heap) (L : LocOk prog w t wd)
    (q : f l t.l H (fun x H1 => f m t.l H1 (fun y H2 => cmpV o1 (view H2 x) (view H2 y) fun k => brB k (f r t.l H2 (fun z H3 => cmpV o2 (view H3 y) (view H3 z) fun k2 => Q (.bool k2) H3) X) (Q (.bool false) H2)) X) X) :
    Tri prog w ql t wd s (eval (.Compare l' [o1,o2] [m',r'] ps) t.env) Q X := by
  intro Qr Er hK hX
  refine Compare_chain ?_ hk
  refine hf n l l' t hl O H wd s _ X S L q _ _ (fun x H1 wd1 s1 V q1 st1 S1 r1 => ?_) hX
  refine chain_link ?_
  refine hf n m m' t hm O H1 wd1 s1 _ X S1 (L.step prog w st1) q1 _ _ (fun y H2 wd2 s2 W q2 st2 S2 r2 => ?_) (on_step st1 hX)
  refine cmp_sound q2 S2 (r1.step st2) r2 O.units fun c tk hc => wpAny_truthy_bool ?_
  have st12 : Step ql t.c wd s wd2 { s2 with toks := tk } := (st1.trans st2).trans .tk
  cases c with
  | false => exact hK _ _ _ _ _ (hc.2 rfl) st12 S2 (.bool _ .nil)
  | true =>
    refine chain_last ?_
    refine hf n r r' t hr O H2 wd2 { s2 with toks := tk } _ X S2 (L.step prog w st12) (hc.1 rfl) _ _ (fun z H3 wd3 s3 U q3 st3 S3 r3 => ?_) (on_step st12 hX)
    exact cmp_sound q3 S3 (r2.step st3) r3 O.units fun c tk hc => hK _ _ _ _ _ hc ((st12.trans st3).trans .tk) S3 (.bool _ .nil)
theorem b_chain {f : EF} {n : Nat} {o1 o2 : CmpOp} {l m r : IE} {l' m' r' : Expr} {ps : Pos} {whole : Sem Value} {Q : Bool → MH → Prop} (hf : ESound prog w K p loose mean mg mb ql D f) (hl : chkE n t.sc l l' = true) (hm : chkE n t.sc m m' = true) (hr : chkE n t.sc r r' = true) (hk : lastMarks [o1,o2] [m',r'] = false) (O : Cxt.Ok K p loose mean mg mb D t)
    (S : RepS t.c w.params t.m t.Y H wd s.heap) (L : LocOk prog w t wd)
    (q : f l t.l H (fun x H1 => f m t.l H1 (fun y H2 => cmpV o1 (view H2 x) (view H2 y) fun k => brB k (f r t.l H2 (fun z H3 => cmpV o2 (view H3 y) (view H3 z) fun k2 => Q k2 H3) X) (Q false H2)) X) X) :
    TriB prog w ql t wd s (isTrue (.Compare l' [o1,o2] [m',r'] ps) t.env whole) Q X := by
  intro Qr Er hK hX
  refine isTrue_chain ?_ hk
  refine hf n l l' t hl O H wd s _ X S L q _ _ (fun x H1 wd1 s1 V q1 st1 S1 r1 => ?_) hX
  refine test_link ?_
  refine hf n m m' t hm O H1 wd1 s1 _ X S1 (L.step prog w st1) q1 _ _ (fun y H2 wd2 s2 W q2 st2 S2 r2 => ?_) (on_step st1 hX)
  refine cmp_sound q2 S2 (r1.step st2) r2 O.units fun c tk hc => wpAny_truthy_bool ?_
  have st12 : Step ql t.c wd s wd2 { s2 with toks := tk } := (st1.trans st2).trans .tk
  cases c with
  | false => exact hK _ _ _ _ (hc.2 rfl) st12 S2
  | true =>
    refine test_last ?_
    refine hf n r r' t hr O H2 wd2 { s2 with toks := tk } _ X S2 (L.step prog w st12) (hc.1 rfl) _ _ (fun z H3 wd3 s3 U q3 st3 S3 r3 => ?_) (on_step st12 hX)
    exact cmp_sound q3 S3 (r2.step st3) r3 O.units fun c tk hc => wpAny_truthy_bool (hK _ _ _ _ hc ((st12.trans st3).trans .tk) S3)
theorem chk_star {n : Nat} {sc : Sc} {ie : IE} {e : Expr} {rest : List Expr} {env : Env} (h : chkE n sc ie e = true) : starEach (e :: rest) env = (false,eval e env) :: starEach rest env := by
  refine byC fun no9 => ?_
  obtain ⟨k,rfl,h⟩ := chk_pos h
  refine no9 ?_
  clear no9
  cases e <;> first | rfl | (cases ie <;> first | (exact falseX h; done) | (rename_i v _ _; cases v <;> cases h))
theorem chk_plain {n : Nat} {sc : Sc} {env : Env} {pos : Pos} {es : List IE} : ∀ {es' : List Expr},chkL (chkE n sc) es es' = true → (backTo pos (starEach es' env)).any (·.1) = false := by
  induction es with
  | nil => intro es' h; rw [chkL_nil h]; rfl
  | cons a r ih =>
    intro es' h
    obtain ⟨e,r',rfl,ha,hr⟩ := chkL_cons h
    rw [chk_star ha]
    have := ih hr
    simpa [backTo] using this
theorem e_args {f : EF} {n : Nat} {pos : Pos} (hf : ESound prog w K p loose mean mg mb ql D f) (O : Cxt.Ok K p loose mean mg mb D t) {es : List IE} : ∀ {es' : List Expr} {H : MH} {wd : Wd} {s : Shared} {Q : List AV → MH → Prop},chkL (chkE n t.sc) es es' = true →
    RepS t.c w.params t.m t.Y H wd s.heap → LocOk prog w t wd → evs f es t.l H Q X → TriL prog w ql t wd s (spliced (backTo pos (starEach es' t.env))) Q X := by
  induction es with
  | nil =>
    intro es' H wd s Q h S L q
    cases chkL_nil h
    exact fun Qr Er hK hX => args_nil (hK _ _ _ _ _ q (.refl ..) S .nil)
  | cons e r ih =>
    intro es' H wd s Q h S L q
    refine byC fun no9 => ?_
    obtain ⟨b,t',rfl,ha,hr⟩ := chkL_cons h
    refine no9 ?_
    clear no9
    intro Qr Er hK hX
    refine args_cons ?_ (chk_star ha)
    refine hf n e b t ha O H wd s _ X S L q _ _ (fun x H1 wd1 s1 V q1 st1 S1 r1 => ?_) hX
    refine ih hr S1 (L.step prog w st1) q1 _ _ (fun y H2 wd2 s2 W q2 st2 S2 r2 => ?_) (on_step st1 hX)
    exact hK _ _ _ _ _ q2 (st1.trans st2) S2 ((r1.step st2).cons r2)
theorem RepS.up {c : FrameCx} {P : Params} {m : Str → Option Value} {X : Led} {H : MH} {w : Wd} {h : Heap} (S : RepS c P m X H w h) : ∀ z ∈ w.all X,z.1 ≠ h.objs.size := fun z hz => Nat.ne_of_lt (Heap.lt_size (S.nw z hz).1)
theorem e_tup {f : EF} {n : Nat} {es : List IE} {es' : List Expr} {k : Nat} {ps : Pos} (hf : ESound prog w K p loose mean mg mb ql D f) (hl : chkL (chkE n t.sc) es es' = true) (O : Cxt.Ok K p loose mean mg mb D t)
    (S : RepS t.c w.params t.m t.Y H wd s.heap) (L : LocOk prog w t wd) (q : evs f es t.l H (fun vs H1 => vs.length ≤ 100000 ∧ Q (.tup vs) H1) X) : Tri prog w ql t wd s (eval (.Tuple es' k ps) t.env) Q X := by
  intro Qr Er hK hX
  refine Tuple_ ?_
  refine e_args hf O hl S L q _ _ (fun vs H1 wd1 s1 Vs q1 st1 S1 r1 => ?_) hX
  refine newTuple_N S1.fr S1.nw (fun h' F' N' => ?_) (by rw [r1.length]; exact Nat.le_trans q1.1 (by decide))
  obtain ⟨wd',S',st',m',_⟩ := S1.addI (tk := s1.toks) F' N' S1.up
  exact hK _ _ _ _ _ q1.2 (st1.trans st') S' (.tup m' (r1.step st') .nil)
theorem e_lst {f : EF} {n : Nat} {mu : Bool} {es : List IE} {es' : List Expr} {ps : Pos} (hf : ESound prog w K p loose mean mg mb ql D f) (hl : chkL (chkE n t.sc) es es' = true) (O : Cxt.Ok K p loose mean mg mb D t)
    (S : RepS t.c w.params t.m t.Y H wd s.heap) (L : LocOk prog w t wd) (q : evs f es t.l H (fun vs H1 => vs.length ≤ 100000 ∧ match mu with
      | false => Q (.lst vs) H1
      | true => (∀ (P : Params) (I : Led) (xs : List Addr) (Vs : List Value),Rs P I xs vs Vs → Rs P I [] vs Vs) ∧ Q (.mu H1.length) (H1 ++ [vs])) X) : Tri prog w ql t wd s (eval (.List es' ps) t.env) Q X := by
  intro Qr Er hK hX
  refine List_ ?_
  refine e_args hf O hl S L q _ _ (fun vs H1 wd1 s1 Vs q1 st1 S1 r1 => ?_) hX
  refine newList_N S1.fr S1.nw (fun h' F' N' => ?_) (by rw [r1.length]; exact Nat.le_trans q1.1 (by decide))
  cases mu with
  | false =>
    obtain ⟨wd',S',st',m',_⟩ := S1.addI (tk := s1.toks) F' N' S1.up
    exact hK _ _ _ _ _ q1.2 (st1.trans st') S' (.lst m' (r1.step st') .nil)
  | true =>
    obtain ⟨wd',S',st',r'⟩ := S1.addM (tk := s1.toks) F' N' S1.up (q1.2.1 _ _ _ _ r1)
    exact hK _ _ _ _ _ q1.2.2 (st1.trans st') S' r'
noncomputable def BF.val : BF → Value
  | .abs => .builtin "abs" | .int => .type "int" | .len => .builtin "len" | .str => .type "str" | .range => .type "range" | .sum => .builtin "sum" | .bytes => .type "bytes"
structure KOk (K : Frag) : Prop where
  fns : ∀ (x : Str) (g : Nat),ftab.lookup x = some g → nsIn K mainGlobals x = some (some (.ref g)) ∧ keepIn K (.ref g) = true
  txts : ∀ (i : Nat) (x : Str) (v : AV),gtab[i]? = some (x,v) → ∃ y u,v = AV.str y ∧ nsIn K mainGlobals x = some (some (.str y u))
  bfs : ∀ b : BF,nsIn K mainGlobals b.name = some none ∧ bootBuiltins b.name = some b.val ∧ b.name ≠ "__name__"
  enm : nsIn K mainGlobals "enumerate" = some none ∧ bootBuiltins "enumerate" = some (.type "enumerate")
  ga : ∀ C,C = 196 ∨ C = 587 → findIn K (.ref C) "__getattribute__" = some (some (.builtin "object.__getattribute__")) ∧ findIn K (.ref C) "__getattr__" = some none
  fld : ∀ C x,C = 196 ∨ C = 587 → x ∈ fieldsOf C → findIn K (.ref C) x = some none
  dic : ∀ C,C = 196 ∨ C = 587 → ∃ cd,clsIn K C = some cd ∧ cd.hasDict = true
  mth : ∀ x g,mtab.lookup x = some g → findIn K (.ref (mcls g)) x = some (some (.ref g)) ∧ typeIn K (.ref g) = some (.type "function") ∧ keepIn K (.ref g) = true ∧ x ∉ fieldsOf (mcls g) ∧ (mcls g = 196 ∨ mcls g = 587)
theorem Cxt.Ok.kin (O : Cxt.Ok K p loose mean mg mb D t) (S : RepS t.c w.params t.m t.Y H wd s.heap) : K.In wd.g := S.kin O.c.kin
theorem Cxt.Ok.kinh (O : Cxt.Ok K p loose mean mg mb D t) (S : RepS t.c w.params t.m t.Y H wd s.heap) : K.In s.heap := (S.kin O.c.kin).keeps S.fr.keep
theorem Cxt.Ok.top (O : Cxt.Ok K p loose mean mg mb D t) (S : RepS t.c w.params t.m t.Y H wd s.heap) : Top p loose mean mg mb wd.g := O.c.top.keeps S.below.stays
theorem e_glob {x : Str} {ps : Pos} {v : Value} {Qr Er : Value → Shared → Prop} (O : Cxt.Ok K p loose mean mg mb D t) (S : RepS t.c w.params t.m t.Y H wd s.heap) (hx : t.sc.glob x = true) (hv : nsIn K mainGlobals x = some (some v)) (h : Qr v s) :
    wpAny (model prog w) t.c.A (eval (.Name x ps) t.env) Qr Er s :=
  nameG_K S.fr (O.kin S) (topRead_of (O.top S)) hv h O.gl O.fn (O.kd x (glob_of hx).1) (nodebug (glob_of hx).2)
theorem e_g {i : Nat} {x : Str} {ps : Pos} {v : AV} (KO : KOk K) (O : Cxt.Ok K p loose mean mg mb D t) (S : RepS t.c w.params t.m t.Y H wd s.heap) (hi : gtab[i]? = some (x,v)) (hx : t.sc.glob x = true) (q : Q v H) : Tri prog w ql t wd s (eval (.Name x ps) t.env) Q X := by
  intro Qr Er hK hX
  refine byC fun no9 => ?_
  obtain ⟨y,u,rfl,hv⟩ := KO.txts i x v hi
  refine no9 ?_
  clear no9
  exact e_glob O S hx hv (hK _ _ _ _ _ q (.refl ..) S (.str _ _ .nil))
theorem e_globB {b : BF} {ps : Pos} {Qr Er : Value → Shared → Prop} (KO : KOk K) (O : Cxt.Ok K p loose mean mg mb D t) (S : RepS t.c w.params t.m t.Y H wd s.heap) (hx : t.sc.glob b.name = true) (h : Qr b.val s) :
    wpAny (model prog w) t.c.A (eval (.Name b.name ps) t.env) Qr Er s := by
  refine byC fun no9 => ?_
  obtain ⟨h1,h2,h3⟩ := KO.bfs b
  refine no9 ?_
  clear no9
  have T := topRead_of (O.top S)
  refine Name_function_global O.fn (O.kd _ (glob_of hx).1) ?_ (nodebug (glob_of hx).2)
  refine loadGlobal_builtin (mg := mg) (mb := mb) ?_ ?_ ?_ ?_ h
  · rw [O.gl]; exact T.g.keeps S.fr.keep
  · exact mg_none_of (O.kin S) T.g h1
  · rw [O.bi]; exact T.b.keeps S.fr.keep
  · exact (T.builtins _ h3).trans h2
noncomputable def TOk (prog : Program) (w : World) (K : Frag) (p : Program) (loose : List Str) (mean : ExcName → Option Value) (mg mb : Str → Option Value) (ql : Bool) (D : Nat) (T : Nat → Option Con) : Prop := (∀ g C,g < 1000 → T g = some C → Sound prog w K p loose mean mg mb ql g D C) ∧ ∀ j C,T (1000 + j) = some C → SoundL prog w K p loose mean mg mb ql j D C
theorem ftab_small {x : Str} {g : Nat} (h : ftab.lookup x = some g) : g < 1000 := by
  have key : ∀ q ∈ ftab,q.2 < 1000 := by decide +kernel
  have mem : ∀ {l : List (Str × Nat)},l.lookup x = some g → (x,g) ∈ l := by
    intro l
    induction l with
    | nil => intro h; cases h
    | cons q l ih =>
      intro h
      rw [List.lookup] at h
      split at h
      · rename_i hb; cases h; rw [eq_of_beq hb]; exact .head _
      · exact .tail _ (ih h)
  exact key _ (mem h)
theorem mtab_small {x : Str} {g : Nat} (h : mtab.lookup x = some g) : g < 1000 := by
  have key : ∀ q ∈ mtab,q.2 < 1000 := by decide +kernel
  have mem : ∀ {l : List (Str × Nat)},l.lookup x = some g → (x,g) ∈ l := by
    intro l
    induction l with
    | nil => intro h; cases h
    | cons q l ih =>
      intro h
      rw [List.lookup] at h
      split at h
      · rename_i hb; cases h; rw [eq_of_beq hb]; exact .head _
      · exact .tail _ (ih h)
  exact key _ (mem h)
theorem call_sound {T : Nat → Option Con} {g : Nat} {C : Con} {vs : List AV} {Vs : List Value} (hT : TOk prog w K p loose mean mg mb ql D T) (O : Cxt.Ok K p loose mean mg mb D t) (hgs : g < 1000) (hg : T g = some C) (S : RepS t.c w.params t.m t.Y H wd s.heap) (r : wd.rep w.params vs Vs) (q : C vs H Q X) :
    Tri prog w ql t wd s (call (.ref g) Vs) Q X := fun Qr Er hK hX => hT.1 g C hgs hg t.c vs H Q X t.m t.Y wd s Vs Qr Er O.c q S r O.room O.units hK hX
theorem e_callW {T : Nat → Option Con} {f : EF} {n : Nat} {g : Nat} {first : List AV} {es : List IE} {es' : List Expr} {ps : Pos} {Fs : List Value} (hf : ESound prog w K p loose mean mg mb ql D f) (hT : TOk prog w K p loose mean mg mb ql D T) (hl : chkL (chkE n t.sc) es es' = true) (O : Cxt.Ok K p loose mean mg mb D t)
    (S : RepS t.c w.params t.m t.Y H wd s.heap) (L : LocOk prog w t wd) (hgs : g < 1000) (hk : keepIn K (.ref g) = true) (r : wd.rep w.params first Fs) (q : evs f es t.l H (fun vs H1 => match T g with | some C => C (first ++ vs) H1 Q X | none => False) X) :
    Tri prog w ql t wd s (callWith ps (.ref g) Fs (backTo ps (starEach es' t.env)) []) Q X := by
  intro Qr Er hK hX
  have fin : ∀ vs H1 wd1 s1 Vs,(match T g with | some C => C (first ++ vs) H1 Q X | none => False) → Step ql t.c wd s wd1 s1 → RepS t.c w.params t.m t.Y H1 wd1 s1.heap → wd1.rep w.params vs Vs → wpAny (model prog w) t.c.A (call (.ref g) (Fs ++ Vs)) Qr Er s1 := by
    intro vs H1 wd1 s1 Vs q1 st1 S1 r1
    cases hg : T g with
    | none => rw [hg] at q1; exact q1.elim
    | some C =>
      rw [hg] at q1
      exact call_sound hT O hgs hg S1 ((r.step st1).app r1) q1 _ _ (fun v H' wd' s' V q' st' S' r' => hK v H' wd' s' V q' (st1.trans st') S' r') (on_step st1 hX)
  cases es' with
  | nil =>
    cases chkL_rn hl
    exact callWith_K0 (O.kinh S) hk (fin [] H wd s [] q (.refl ..) S .nil)
  | cons e rest =>
    rcases chkL_some hl with ⟨_,h1⟩ | ⟨a,r',b,t',h1,h2,ha,hr⟩
    · cases h1
    · cases h2
      refine callWith_K (O.kin S) hk ?_ (chk_star ha) (chk_plain hr)
      refine e_args hf O hl S L q _ _ (fun vs H1 wd1 s1 Vs q1 st1 S1 r1 => ?_) hX
      exact ⟨O.kinh S1,fin vs H1 wd1 s1 Vs q1 st1 S1 r1⟩
theorem e_call {T : Nat → Option Con} {f : EF} {n : Nat} {g : Nat} {x : Str} {xp : Pos} {es : List IE} {es' : List Expr} {ps : Pos} (KO : KOk K) (hf : ESound prog w K p loose mean mg mb ql D f) (hT : TOk prog w K p loose mean mg mb ql D T) (hx : t.sc.glob x = true) (hg : ftab.lookup x = some g) (hl : chkL (chkE n t.sc) es es' = true) (O : Cxt.Ok K p loose mean mg mb D t)
    (S : RepS t.c w.params t.m t.Y H wd s.heap) (L : LocOk prog w t wd) (q : evs f es t.l H (fun vs H1 => match T g with | some C => C vs H1 Q X | none => False) X) :
    Tri prog w ql t wd s (eval (.Call (.Name x xp) es' [] ps) t.env) Q X := by
  intro Qr Er hK hX
  obtain ⟨h1,h2⟩ := KO.fns x g hg
  refine Call_ (e_glob O S hx h1 ?_)
  exact e_callW (first := []) (Fs := []) hf hT hl O S L (ftab_small hg) h2 .nil q _ _ hK hX
theorem base_of {o : Expr} {x : Str} {env : Env} {whole : Sem Value} (h : noSuper o = true) : attributeBase o x env whole = whole := by
  cases o <;> try rfl
  rename_i f as ks ps
  cases f <;> try rfl
  cases as <;> try rfl
  cases ks <;> try rfl
  exact falseX h
theorem mcall {M : Model} {A : Around} {E : Value → Shared → Prop} {s : Shared} {env : Env} {o : Expr} {name : Str} {apos pos : Pos} {args : List Expr} {Q : Value → Shared → Prop} (hs : noSuper o = true) (hf : methodCallForm (args.length + 0) (backTo pos (starEach args env)) [] = true) (hl : (apos.endLine == pos.line) = true)
    (h : wpAny M A (eval o env) (fun ov s₁ => wpAny M A (getMethod ov name (do return (← importBound o env).getD true)) (fun fx s₂ => wpAny M A (callWith pos fx.1 fx.2 (backTo pos (starEach args env)) []) Q E s₂) E s₁) E s) :
    wpAny M A (eval (.Call (.Attribute o name apos) args [] pos) env) Q E s := by
  show wpAny M A (do
    let ov ← attributeBase o name env (eval o env)
    standAt apos.atName
    methodCall o name apos pos env ov (args.length + 0) (backTo pos (starEach args env)) []) Q E s
  rw [base_of hs]
  refine wpAny_bind (wpAny_mono h (fun ov s₁ h₁ => wpAny_bind (wpAny_standAt ?_)) fun _ _ x => x)
  unfold methodCall
  rw [hf]
  refine wpAny_bind (wpAny_holding (wpAny_mono h₁ (fun fx s₂ h₂ => ?_) fun _ _ x => x))
  refine wpAny_bind ?_
  unfold methodCallPos
  rw [hl]
  exact wpAny_pure h₂
theorem form_of {n : Nat} {sc : Sc} {env : Env} {pos : Pos} {es : List IE} {es' : List Expr} (h : chkL (chkE n sc) es es' = true) (hz : es'.length < 30) : methodCallForm (es'.length + 0) (backTo pos (starEach es' env)) [] = true := by
  have h1 := chk_plain (env := env) (pos := pos) h
  unfold methodCallForm
  have h2 : (backTo pos (starEach es' env)).all (!·.1) = true := by
    rw [List.all_eq_true]
    rw [List.any_eq_false] at h1
    intro x hx
    simpa using h1 x hx
  rw [h2]
  simp
  omega
theorem entsR_find {P : Params} : ∀ {names : List Str} {es : List DictEntry} {us : List Value},EntsR P names es us → names.Nodup → ∀ {k : Nat} {x : Str} {u : Value},names[k]? = some x → us[k]? = some u → (es.find? (·.key.isStr x)).map (·.val) = some u := by
  intro names es us h
  induction h with
  | nil => intro _ k x u e; simp at e
  | @cons y t v xs es us h ih =>
    intro nd k x u e hu
    obtain ⟨n1,n2⟩ := List.nodup_cons.mp nd
    refine byC fun no9 => ?_
    cases k with
    | zero =>
      refine no9 ?_
      clear no9
      cases Option.some.inj e
      cases Option.some.inj hu
      have : (Value.str y t).isStr y = true := by simp [Value.isStr]
      simp [this]
    | succ k =>
      refine no9 ?_
      clear no9
      have hxy : y ≠ x := fun h => n1 (h ▸ List.mem_of_getElem? (by simpa using e))
      have hne : (Value.str y t).isStr x = false := by
        have : (y == x) = false := by simpa using hxy
        simp [Value.isStr,this]
      simp only [List.find?_cons]
      simp only [hne]
      exact ih n2 (by simpa using e) (by simpa using hu)
theorem entsR_none {P : Params} : ∀ {names : List Str} {es : List DictEntry} {us : List Value},EntsR P names es us → ∀ {x : Str},x ∉ names → es.find? (·.key.isStr x) = none ∧ es.any (·.refKey) = false := by
  intro names es us h
  induction h with
  | nil => intro x _; exact ⟨rfl,rfl⟩
  | @cons y t v xs es us h ih =>
    intro x hx
    have hxy : y ≠ x := fun h => hx (h ▸ .head _)
    have hne : (Value.str y t).isStr x = false := by
      have : (y == x) = false := by simpa using hxy
      simp [Value.isStr,this]
    obtain ⟨i1,i2⟩ := ih (x := x) (fun h => hx (.tail _ h))
    refine ⟨?_,?_⟩
    · simp only [List.find?_cons]
      simp only [hne]
      exact i1
    · rw [List.any_cons,i2]; rfl
theorem lookIn_field {P : Params} {names : List Str} {es : List DictEntry} {us : List Value} {c k : Nat} {x : Str} {u : Value} (h : EntsR P names es us) (nd : names.Nodup) (e : names[k]? = some x) (hu : us[k]? = some u) : lookIn x (dictOf es c) = some (some u) := by
  have := entsR_find h nd e hu
  unfold lookIn dictOf
  dsimp only
  cases hf : es.find? (·.key.isStr x) with
  | none => rw [hf] at this; exact noneX this
  | some e' =>
    rw [hf] at this
    simp only [Option.map_some,Option.some.injEq] at this
    simp only [hf,this]
theorem lookIn_no {P : Params} {names : List Str} {es : List DictEntry} {us : List Value} {c : Nat} {x : Str} (h : EntsR P names es us) (hx : x ∉ names) : lookIn x (dictOf es c) = some none := by
  obtain ⟨h1,h2⟩ := entsR_none h hx
  unfold lookIn dictOf
  simp only [h1,h2]
  rfl
theorem inst_at {d a : Addr} {C c : Nat} {es : List DictEntry} {h : Heap} (h1 : h.get? a = some (instObj C d)) (h2 : h.get? d = some (dictOf es c)) : W.InstAt h a (instObj C d) C (some (dictOf es c)) := ⟨h1,rfl,rfl,h2⟩
theorem fields_nodup (C : Nat) : (fieldsOf C).Nodup := by
  unfold fieldsOf
  split
  · decide
  · decide
  · exact .nil
theorem fields_cls {C k : Nat} {x : Str} (h : (fieldsOf C)[k]? = some x) : C = 196 ∨ C = 587 := by
  unfold fieldsOf at h
  split at h
  · exact .inl rfl
  · exact .inr rfl
  · simp at h
theorem handed_of {P : Params} {v : AV} {V : Value} (r : wd.rep P [v] [V]) (h : ∀ u,v ≠ .val u) : handedIn V = true := by
  have i := RepV.inv r
  cases v with
  | val w => exact absurd rfl (h _)
  | none => cases i; rfl
  | bool b => cases i; rfl
  | int n => obtain ⟨_,rfl⟩ := i; rfl
  | str n => obtain ⟨_,rfl⟩ := i; rfl
  | bytes n => obtain ⟨_,_,rfl,_⟩ := i; rfl
  | tup n => obtain ⟨_,_,_,rfl,_⟩ := i; rfl
  | lst n => obtain ⟨_,_,_,rfl,_⟩ := i; rfl
  | inst n m => obtain ⟨_,_,_,_,_,rfl,_⟩ := i; rfl
  | mu n => obtain ⟨_,rfl,_⟩ := i; rfl
  | rng a b c => obtain ⟨_,_,_,_,rfl,_⟩ := i; rfl
  | ext n => obtain ⟨_,_,_,_,rfl,_⟩ := i; rfl
  | fn j c => obtain ⟨_,_,rfl,_⟩ := i; rfl
theorem e_attr {f : EF} {n C k : Nat} {o : IE} {o' : Expr} {x : Str} {ps : Pos} (KO : KOk K) (hf : ESound prog w K p loose mean mg mb ql D f) (hs : noSuper o' = true) (ho : chkE n t.sc o o' = true) (hx : (fieldsOf C)[k]? = some x) (O : Cxt.Ok K p loose mean mg mb D t)
    (S : RepS t.c w.params t.m t.Y H wd s.heap) (L : LocOk prog w t wd) (q : f o t.l H (fun v H1 => match v with | .inst C' fs => C' = C ∧ (match fs[k]? with | some (.val _) => False | some y => Q y H1 | none => False) | _ => False) X) :
    Tri prog w ql t wd s (eval (.Attribute o' x ps) t.env) Q X := by
  intro Qr Er hK hX
  refine Attribute_any_ ?_ ?_
  · refine hf n o o' t ho O H wd s _ X S L q _ _ (fun v H1 wd1 s1 V q1 st1 S1 r1 => ?_) hX
    cases v <;> try (exact q1.elim)
    case inst C' fs =>
      refine byC fun no9 => ?_
      obtain ⟨rfl,q1⟩ := q1
      obtain ⟨a,d,es,us,c,rfl,m1,m2,er,rr⟩ := RepV.ins r1
      refine no9 ?_
      clear no9
      · cases hy : fs[k]? with
        | none => rw [hy] at q1; exact q1.elim
        | some y =>
          rw [hy] at q1
          have hv : (∀ u,y ≠ .val u) ∧ Q y H1 := by
            cases y <;> first | exact ⟨fun _ h => (by cases h),q1⟩ | exact False.elim q1
          refine byC fun no9 => ?_
          obtain ⟨V,hV,rV⟩ := rr.get hy
          have I := inst_at (S1.allI _ m1) (S1.allI _ m2)
          have hC := fields_cls hx
          obtain ⟨cd,hc,hd⟩ := KO.dic C' hC
          refine no9 ?_
          clear no9
          refine get_value (O.kinh S1) I (KO.ga C' hC).1 (v := V) ?_ (handed_of rV hv.1) (hK _ _ _ _ _ hv.2 (st1.trans .tk) S1 rV)
          have hl := lookIn_field (c := c) er (fields_nodup C') hx hV
          show (clsIn K C').bind _ = _
          rw [hc]
          show (findIn K (.ref C') x).bind _ = _
          rw [KO.fld C' x hC (List.mem_of_getElem? hx)]
          show (W.ownOf cd _ x).bind _ = _
          unfold W.ownOf
          rw [hd]
          simp only [if_true,hl,Option.bind_some]
  · show (do let o ← attributeBase o' x t.env (eval o' t.env); standAt ps.atName; let r ← holding [o] (getAttr o x true); letTemporaryGo o' o r; pure r) = _
    rw [base_of hs]
theorem e_meth {T : Nat → Option Con} {f : EF} {n g : Nat} {o : IE} {o' : Expr} {x : Str} {es : List IE} {es' : List Expr} {apos ps : Pos} (KO : KOk K) (hf : ESound prog w K p loose mean mg mb ql D f) (hT : TOk prog w K p loose mean mg mb ql D T) (hg : mtab.lookup x = some g) (hs : noSuper o' = true) (hp : (apos.endLine == ps.line) = true) (hz : es'.length < 30)
    (ho : chkE n t.sc o o' = true) (hl : chkL (chkE n t.sc) es es' = true) (O : Cxt.Ok K p loose mean mg mb D t) (S : RepS t.c w.params t.m t.Y H wd s.heap) (L : LocOk prog w t wd)
    (q : f o t.l H (fun v H1 => match v with | .inst C' fs => C' = mcls g ∧ evs f es t.l H1 (fun vs H2 => match T g with | some C => C (.inst C' fs :: vs) H2 Q X | none => False) X | _ => False) X) :
    Tri prog w ql t wd s (eval (.Call (.Attribute o' x apos) es' [] ps) t.env) Q X := by
  intro Qr Er hK hX
  refine mcall hs (form_of hl hz) hp ?_
  refine hf n o o' t ho O H wd s _ X S L q _ _ (fun v H1 wd1 s1 V q1 st1 S1 r1 => ?_) hX
  refine byC fun no9 => ?_
  obtain ⟨h1,h2,h3,h4,h5⟩ := KO.mth x g hg
  refine no9 ?_
  clear no9
  cases v <;> try (exact q1.elim)
  case inst C' fs =>
    refine byC fun no9 => ?_
    obtain ⟨rfl,q1⟩ := q1
    have r2 := r1
    obtain ⟨a,d,es2,us,c,rfl,m1,m2,er,rr⟩ := RepV.ins r1
    refine no9 ?_
    clear no9
    · have I := inst_at (S1.allI _ m1) (S1.allI _ m2)
      refine method_fn (O.kinh S1) I (KO.ga _ h5).1 (KO.ga _ h5).2 h1 h2 ?_ ?_
      · show (lookIn x (dictOf es2 c)).map (·.isSome) = some false
        rw [lookIn_no er h4]; rfl
      · exact e_callW hf hT hl O S1 (L.step prog w st1) (mtab_small hg) h3 r2 q1 _ _ (fun v H' wd' s' V q' st' S' r' => hK v H' wd' s' V q' (st1.trans st') S' r') (on_step st1 hX)
end
section
variable {ql : Bool} {prog : Program} {w : World} {K : Frag} {p : Program} {loose : List Str} {mean : ExcName → Option Value} {mg mb : Str → Option Value} {D : Nat}
  {t : Cxt} {H : MH} {wd : Wd} {s : Shared} {X : Nat → MH → Prop} {Q : AV → MH → Prop}
theorem _root_.Mine.Internal.Step.mk' {ql : Bool} {c : FrameCx} {w : Wd} {s : Shared} {h : Heap} {tk : Nat} : Step ql c w s w { s with heap := h,toks := tk } := ⟨.mk,.refl,.refl w,fun _ => rfl⟩
theorem sub_of {slice : Expr} {o i : Value} (h : isSlice slice = false) : subscripted slice false o i = operate [o,i] (getItem o i) := by
  cases slice <;> first | rfl | exact falseX (Eq.symm h)
theorem tail_name {A : Around} {E : Value → Shared → Prop} {value slice : Expr} {o i : Value} {Q : Value → Shared → Prop} (h : wpAny (model prog w) A (subscriptTail (.Name "_" ⟨0,0,0,0⟩) slice o i) Q E s) : wpAny (model prog w) A (subscriptTail value slice o i) Q E s :=
  kba_turn (value' := .Name "_" ⟨0,0,0,0⟩) (fun _ => rfl) h
theorem idx_in {xs : List AV} {k : Int} (h0 : 0 ≤ k) (h1 : k < xs.length) : k.toNat < xs.length ∧ xs[k.toNat]? = some (xs.getD k.toNat .none) := by
  have hk : k.toNat < xs.length := by lia
  exact ⟨hk,by rw [List.getD_eq_getElem?_getD,List.getElem?_eq_getElem hk]; rfl⟩
theorem seq_idx {k : Int} {n : Nat} (h0 : 0 ≤ k) (h1 : k < n) : seqIndex? k n = some k.toNat := by
  unfold seqIndex?
  rw [if_neg (Int.not_lt.mpr h0)]
  exact if_pos (Bool.and_eq_true_iff.mpr ⟨decide_eq_true h0,decide_eq_true h1⟩)
inductive IdxIs (Q : AV → Prop) : AV → AV → Prop
  | lst {xs k} : (0 ≤ k ∧ k < (xs.length : Int) ∧ xs.length ≤ 100000) → Q (xs.getD k.toNat .none) → IdxIs Q (.lst xs) (.int k)
  | tup {xs k} : (0 ≤ k ∧ k < (xs.length : Int) ∧ xs.length ≤ 100000) → Q (xs.getD k.toNat .none) → IdxIs Q (.tup xs) (.int k)
  | str {x k} : (0 ≤ k ∧ k < (x.length : Int) ∧ x.length ≤ 100000) → Q (.str (Txt.item x k)) → IdxIs Q (.str x) (.int k)
theorem idxV_inv {x y : AV} {Q : AV → Prop} (q : idxV x y Q) : IdxIs Q x y := by
  cases x <;> first | exact False.elim q | (cases y <;> first | exact False.elim q | exact .lst q.1 q.2 | exact .tup q.1 q.2 | exact .str q.1 q.2)
theorem idx_sound {value slice : Expr} {a b : AV} {V W : Value} (hs : isSlice slice = false) (q : idxV (view H a) b fun v => Q v H) (S : RepS t.c w.params t.m t.Y H wd s.heap) (ra : wd.rep w.params [a] [V]) (rb : wd.rep w.params [b] [W]) :
    Tri prog w ql t wd s (subscriptTail value slice V W) Q X := by
  replace q := idxV_inv q
  generalize ea : view H a = x at q
  refine byC fun no9 => ?_
  cases q with
  | lst h q2 =>
    refine no9 ?_
    clear no9
    obtain ⟨d,vs,n,rfl,m1,r1⟩ := view_lst S.mr ra ea
    obtain ⟨u,rfl⟩ := RepV.i rb
    obtain ⟨V',hV,rV⟩ := r1.get (idx_in h.1 h.2.1).2
    intro Qr Er hK hX
    exact tail_name (item_listL ⟨_,S.isList m1,rfl,_,rfl⟩ h.1 (Int.lt_of_lt_of_le h.2.1 (Int.ofNat_le.mpr (Nat.le_trans h.2.2 (by decide)))) hV (hK _ _ _ _ _ q2 (.refl ..) S rV) (sub_of hs) (fun _ => rfl))
  | tup h q2 =>
    refine no9 ?_
    clear no9
    obtain ⟨d,vs,n,rfl,m1,r1⟩ := view_t ra ea
    obtain ⟨u,rfl⟩ := RepV.i rb
    obtain ⟨V',hV,rV⟩ := r1.get (idx_in h.1 h.2.1).2
    intro Qr Er hK hX
    have hlen := r1.length
    have hj : seqIndex? _ vs.length = some _ := seq_idx h.1 (by rw [hlen]; exact h.2.1)
    exact tail_name (item_tupleT ⟨_,S.allI _ m1,rfl,_,rfl⟩ (Int.le_trans (by decide : (-9223372036854775808 : Int) ≤ 0) h.1) (Int.lt_of_lt_of_le h.2.1 (Int.ofNat_le.mpr (Nat.le_trans h.2.2 (by decide)))) hj hV (hK _ _ _ _ _ q2 (.refl ..) S rV) (sub_of hs))
  | str h q2 =>
    refine no9 ?_
    clear no9
    obtain ⟨u1,rfl⟩ := view_s ra ea
    obtain ⟨u,rfl⟩ := RepV.i rb
    intro Qr Er hK hX
    have e1 := Int.lt_of_lt_of_le (by decide : (-9223372036854775808 : Int) < 0) h.1
    have e2 := Int.lt_of_lt_of_le h.2.1 (Int.ofNat_le.mpr (Nat.le_trans h.2.2 (by decide : 100000 ≤ 9223372036854775808)))
    exact tail_name (item_str (fitsSsize_of (N := 9223372036854775808) e1 e2 (Int.le_refl _)) (Int.le_trans (Int.neg_nonpos_of_nonneg (Int.natCast_nonneg _)) h.1) h.2.1 (fun _ => hK _ _ _ _ _ q2 .tk S (.str _ _ .nil)) (sub_of hs) (fun _ => rfl))
theorem e_idx {f : EF} {n : Nat} {o i : IE} {o' i' : Expr} {ps : Pos} (hf : ESound prog w K p loose mean mg mb ql D f) (hs : isSlice i' = false) (ho : chkE n t.sc o o' = true) (hi : chkE n t.sc i i' = true) (O : Cxt.Ok K p loose mean mg mb D t)
    (S : RepS t.c w.params t.m t.Y H wd s.heap) (L : LocOk prog w t wd) (q : f o t.l H (fun x H1 => f i t.l H1 (fun y H2 => idxV (view H2 x) y fun v => Q v H2) X) X) : Tri prog w ql t wd s (eval (.Subscript o' i' ps) t.env) Q X := by
  intro Qr Er hK hX
  refine Subscript_ ?_
  refine e_two hf ho hi O S L q hX fun x y H2 wd2 s2 V W q2 st2 S2 r1 r2 => ?_
  exact idx_sound hs q2 S2 r1 r2 _ _ (fun v H' wd' s' V q' st' S' r' => hK v H' wd' s' V q' (st2.trans st') S' r') (on_step st2 hX)
theorem e_part {f : EF} {n : Nat} (hf : ESound prog w K p loose mean mg mb ql D f) (O : Cxt.Ok K p loose mean mg mb D t) {e : Option IE} {e' : Option Expr} (h : chkO (chkE n t.sc) e e' = true) (S : RepS t.c w.params t.m t.Y H wd s.heap) (L : LocOk prog w t wd) {R : Option AV → MH → Prop} (q : evo f e t.l H R X)
    {P : Value → Shared → Prop} {Er : Value → Shared → Prop} (hX : XC w ql t wd s X Er)
    (hP : ∀ x H2 wd2 s2 V,R x H2 → Step ql t.c wd s wd2 s2 → RepS t.c w.params t.m t.Y H2 wd2 s2.heap → ((x = none ∧ V = .none) ∨ ∃ y,x = some y ∧ wd2.rep w.params [y] [V]) → P V s2) : wpAny (model prog w) t.c.A (evalPart e' t.env) P Er s := by
  refine byC fun no9 => ?_
  cases e with
  | none =>
    refine no9 ?_
    clear no9
    cases e' with
    | none => exact wpAny_evalPart_none (hP _ _ _ _ _ q (.refl ..) S (.inl ⟨rfl,rfl⟩))
    | some _ => exact falseX h
  | some x =>
    refine no9 ?_
    clear no9
    cases e' with
    | none => exact falseX h
    | some x' =>
      refine wpAny_evalPart_some ?_
      exact hf n x x' t h O H wd s _ X S L q _ _ (fun v H1 wd1 s1 V q1 st1 S1 r1 => hP _ _ _ _ _ q1 st1 S1 (.inr ⟨_,rfl,r1⟩)) hX
theorem kms_take {l : List Value} {b : Int} (h : 0 ≤ b) : kms_pick l none (some b) = l.take b.toNat := by
  unfold kms_pick kms_lo kms_hi
  simp only [if_neg (Int.not_lt.mpr h),List.drop_zero,Nat.sub_zero]
  exact kmk_take_min l b.toNat
theorem kms_drop {l : List Value} {a : Int} (h : 0 ≤ a) : kms_pick l (some a) none = l.drop a.toNat := by
  unfold kms_pick kms_lo kms_hi
  simp only [if_neg (Int.not_lt.mpr h)]
  rw [kmk_drop_min]
  apply List.take_of_length_le
  rw [List.length_drop]
  exact Nat.sub_le_sub_left (Nat.min_le_left _ _) _
theorem Rs.take {P : Params} {I : Led} {xs : List Addr} : ∀ {l : List AV} {R : List Value},Rs P I xs l R → ∀ k,Rs P I xs (l.take k) (R.take k) := by
  intro l
  induction l with
  | nil => intro R h k; cases h.nil0; cases k <;> exact .nil
  | cons v l ih =>
    intro R h k
    obtain ⟨V,R1,rfl,h1,h2⟩ := h.uncons
    cases k with
    | zero => exact .nil
    | succ k => exact .cons h1 (ih h2 k)
theorem Rs.drop {P : Params} {I : Led} {xs : List Addr} : ∀ {l : List AV} {R : List Value},Rs P I xs l R → ∀ k,Rs P I xs (l.drop k) (R.drop k) := by
  intro l
  induction l with
  | nil => intro R h k; cases h.nil0; cases k <;> exact .nil
  | cons v l ih =>
    intro R h k
    obtain ⟨V,R1,rfl,h1,h2⟩ := h.uncons
    cases k with
    | zero => exact .cons h1 h2
    | succ k => exact ih h2 k
theorem RepS.pushI (S : RepS t.c w.params t.m t.Y H wd s.heap) (o : Obj) : RepS t.c w.params t.m t.Y H wd (s.heap.push o) := S.heap (S.fr.push _) fun q hq => ⟨Heap.get?_push_of_some _ (S.nw q hq).1,(S.nw q hq).2⟩
noncomputable def PartIs (a : Option Int) (V : Value) : Prop := match a with | none => V = .none | some i => ∃ u,V = .int i u
theorem part_is {x : Option AV} {a : Option Int} {V : Value} (e : partI x = some a) (r : (x = none ∧ V = .none) ∨ ∃ z,x = some z ∧ wd.rep w.params [z] [V]) : PartIs a V := by
  rcases r with ⟨rfl,h⟩ | ⟨z,rfl,r⟩
  · cases Option.some.inj e; exact h
  · cases z <;> first | exact noneX e | (cases Option.some.inj e; exact RepV.i r)
inductive TakeIs (xs : List AV) (Q : AV → Prop) : Option Int → Option Int → Prop
  | mk {b} : (0 ≤ b ∧ b ≤ 100000 ∧ xs.length ≤ 1000000) → Q (.lst (xs.take b.toNat)) → TakeIs xs Q none (some b)
theorem takeV_inv {xs : List AV} {Q : AV → Prop} {a b : Option Int} (q : takeV xs a b Q) : TakeIs xs Q a b := by
  cases a <;> cases b <;> first | exact False.elim q | exact ⟨q.1,q.2⟩
theorem take_ok {value : Expr} {lo hi : Option Expr} {ps : Pos} {d : Addr} {xs : List AV} {vs : List Value} {a b : Option Int} {W U : Value} (q : takeV xs a b fun v => Q v H) (S : RepS t.c w.params t.m t.Y H wd s.heap) (hl : s.heap.IsList d vs.toArray) (r : wd.rep w.params xs vs) (ra : PartIs a W) (rb : PartIs b U) {Qr Er : Value → Shared → Prop}
    (hK : ∀ v H' wd' s' V,Q v H' → Step ql t.c wd s wd' s' → RepS t.c w.params t.m t.Y H' wd' s'.heap → wd'.rep w.params [v] [V] → Qr V s') :
    wpAny (model prog w) t.c.A (subscriptTail value (.Slice lo hi none ps) (.ref d) (.ref s.heap.objs.size)) Qr Er { s with heap := s.heap.push { cls := .type "slice",data := .fields #[W,U,.none] } } := by
  cases takeV_inv q with | mk h q2 => ?_
  cases ra
  obtain ⟨u,rfl⟩ := rb
  refine tail_name (kms_slice_lit S.fr S.nw hl (lo := none) (hi := some _) .none (.int _ _) (kms_take h.1) (fun D' h' F' N' l1 => ?_) rfl (fun _ => rfl) ?_)
  · obtain ⟨wd',S',st',m',_⟩ := S.addI (tk := s.toks) F' N' (fun z hz => Nat.ne_of_lt (l1 z hz))
    exact hK _ _ _ _ _ q2 st' S' (.lst m' ((r.take _).step st') .nil)
  · rw [List.size_toArray,r.length]; exact Nat.le_trans h.2.2 (by decide)
inductive DropIs (xs : List AV) (Q : AV → Prop) : Option Int → Option Int → Prop
  | mk {a} : (0 ≤ a ∧ a ≤ 100000 ∧ xs.length ≤ 1000000) → Q (.lst (xs.drop a.toNat)) → DropIs xs Q (some a) none
  | tk {a b} : takeV xs a b Q → DropIs xs Q a b
theorem dropV_inv {xs : List AV} {Q : AV → Prop} {a b : Option Int} (q : dropV xs a b Q) : DropIs xs Q a b := by
  cases a <;> cases b <;> first | exact .tk q | exact .mk q.1 q.2
inductive CutIs (x : Str) (Q : AV → Prop) : Option Int → Option Int → Prop
  | ns {b} : x.length ≤ 100000 → Q (.str (Txt.slice x none (some b))) → CutIs x Q none (some b)
  | sn {a} : x.length ≤ 100000 → Q (.str (Txt.slice x (some a) none)) → CutIs x Q (some a) none
  | ss {a b} : x.length ≤ 100000 → Q (.str (Txt.slice x (some a) (some b))) → CutIs x Q (some a) (some b)
theorem cutV_inv {x : Str} {Q : AV → Prop} {a b : Option Int} (q : cutV x a b Q) : CutIs x Q a b := by
  cases a <;> cases b <;> first | exact False.elim q | exact .ns q.1.2.2 q.2 | exact .sn q.1.2.2 q.2 | exact .ss q.1.2.2.2.2 q.2
theorem slice_sound {value : Expr} {lo hi : Option Expr} {ps : Pos} {a : AV} {x y : Option AV} {V W U : Value} (q : sliceV (view H a) x y fun v => Q v H) (S : RepS t.c w.params t.m t.Y H wd s.heap) (ra : wd.rep w.params [a] [V])
    (rx : (x = none ∧ W = .none) ∨ ∃ z,x = some z ∧ wd.rep w.params [z] [W]) (ry : (y = none ∧ U = .none) ∨ ∃ z,y = some z ∧ wd.rep w.params [z] [U]) {Qr Er : Value → Shared → Prop}
    (hK : ∀ v H' wd' s' V,Q v H' → Step ql t.c wd s wd' s' → RepS t.c w.params t.m t.Y H' wd' s'.heap → wd'.rep w.params [v] [V] → Qr V s') :
    wpAny (model prog w) t.c.A (subscriptTail value (.Slice lo hi none ps) V (.ref s.heap.objs.size)) Qr Er { s with heap := s.heap.push { cls := .type "slice",data := .fields #[W,U,.none] } } := by
  generalize ea : view H a = v at q
  cases v <;> first | exact False.elim q | skip
  all_goals
    refine byC fun no9 => ?_
    obtain ⟨i,ei,q⟩ := optP_some q
    obtain ⟨j,ej,q⟩ := optP_some q
    refine no9 ?_
    clear no9
    have rx := part_is ei rx
    have ry := part_is ej ry
  · obtain ⟨u1,rfl⟩ := view_s ra ea
    refine tail_name ?_
    cases cutV_inv q with
    | ns h q2 => cases rx; obtain ⟨u,rfl⟩ := ry; exact slice_strN_ns S.fr S.nw (fun h' t' k F' N' => hK _ _ _ _ _ q2 .mk' (S.heap F' N') (.str _ _ .nil)) rfl (fun _ => rfl) (Nat.le_trans h (by decide))
    | sn h q2 => cases ry; obtain ⟨u,rfl⟩ := rx; exact slice_strN_sn S.fr S.nw (fun h' t' k F' N' => hK _ _ _ _ _ q2 .mk' (S.heap F' N') (.str _ _ .nil)) rfl (fun _ => rfl) (Nat.le_trans h (by decide))
    | ss h q2 => obtain ⟨u,rfl⟩ := rx; obtain ⟨u,rfl⟩ := ry; exact slice_strN_ss S.fr S.nw (fun h' t' k F' N' => hK _ _ _ _ _ q2 .mk' (S.heap F' N') (.str _ _ .nil)) rfl (fun _ => rfl) (Nat.le_trans h (by decide))
  · obtain ⟨d,vs,n,rfl,m1,r1⟩ := view_lst S.mr ra ea
    cases dropV_inv q with
    | tk q2 => exact take_ok q2 S ⟨_,S.isList m1,rfl,_,rfl⟩ r1 rx ry hK
    | mk h q2 =>
      cases ry
      obtain ⟨u,rfl⟩ := rx
      refine tail_name (kms_slice_lit S.fr S.nw ⟨_,S.isList m1,rfl,_,rfl⟩ (lo := some _) (hi := none) (.int _ _) .none (kms_drop h.1) (fun D' h' F' N' l1 => ?_) rfl (fun _ => rfl) ?_)
      · obtain ⟨wd',S',st',m',_⟩ := S.addI (tk := s.toks) F' N' (fun z hz => Nat.ne_of_lt (l1 z hz))
        exact hK _ _ _ _ _ q2 st' S' (.lst m' ((r1.drop _).step st') .nil)
      · rw [List.size_toArray,r1.length]; exact Nat.le_trans h.2.2 (by decide)
  · obtain ⟨d,vs,o,n,rfl,m1,hoc,hod,r1⟩ := RepV.ex (view_ne ra ea fun _ h => AV.noConfusion h)
    exact take_ok q S ⟨_,S.allI _ m1,hoc,_,hod⟩ r1 rx ry hK
theorem e_slice {f : EF} {n : Nat} {o : IE} {o' : Expr} {lo hi : Option IE} {lo' hi' : Option Expr} {ps ps2 : Pos} (hf : ESound prog w K p loose mean mg mb ql D f) (ho : chkE n t.sc o o' = true) (h1 : chkO (chkE n t.sc) lo lo' = true) (h2 : chkO (chkE n t.sc) hi hi' = true) (O : Cxt.Ok K p loose mean mg mb D t)
    (S : RepS t.c w.params t.m t.Y H wd s.heap) (L : LocOk prog w t wd) (q : f o t.l H (fun x H1 => evo f lo t.l H1 (fun y H2 => evo f hi t.l H2 (fun z H3 => sliceV (view H3 x) y z fun v => Q v H3) X) X) X) :
    Tri prog w ql t wd s (eval (.Subscript o' (.Slice lo' hi' none ps2) ps) t.env) Q X := by
  intro Qr Er hK hX
  refine Subscript_ ?_
  refine hf n o o' t ho O H wd s _ X S L q _ _ (fun x H1 wd1 s1 V q1 st1 S1 r1 => ?_) hX
  refine wpAny_Slice ?_
  refine e_part hf O h1 S1 (L.step prog w st1) q1 (on_step st1 hX) (fun y H2 wd2 s2 W q2 st2 S2 r2 => ?_)
  have st12 := st1.trans st2
  refine e_part hf O h2 S2 (L.step prog w st12) q2 (on_step st12 hX) (fun z H3 wd3 s3 U q3 st3 S3 r3 => ?_)
  have st13 := st12.trans st3
  refine wpAny_evalPart_none ?_
  refine slice_sound q3 S3 (r1.step (st2.trans st3)) ?_ r3 (fun v H' wd' s' V q' st' S' r' => hK v H' wd' s' V q' (st13.trans st') S' r')
  refine byC fun no9 => ?_
  rcases r2 with h | ⟨z,h,r⟩
  · refine no9 ?_
    clear no9
    exact .inl h
  · refine no9 ?_
    clear no9
    exact .inr ⟨z,h,r.step st3⟩
end
theorem RepS.setM {c : FrameCx} {P : Params} {m : Str → Option Value} {X : Led} {H : MH} {w : Wd} {h h' : Heap} {i : Nat} {a : Addr} {vs vs' : List Value} {n n' : Nat} {l : List AV} (S : RepS c P m X H w h) (e : w.Mo[i]? = some (a,lstO vs n)) (F : Fr w.g c.L h' m)
    (N : News w.g c.L h' ((a,lstO vs' n') :: (w.all X).filter (·.1 ≠ a))) (hc : Rs P w.I [] l vs') : RepS c P m X (H.set i l) { w with Mo := w.Mo.set i (a,lstO vs' n') } h' ∧ Ext w { w with Mo := w.Mo.set i (a,lstO vs' n') } := by
  have hi : i < w.Mo.length := (List.getElem?_eq_some_iff.mp e).1
  have hxs : (w.Mo.set i (a,lstO vs' n')).map (·.1) = w.xs := by
    show _ = w.Mo.map (·.1)
    simp only [List.map_set]
    apply List.ext_getElem?
    intro j
    simp only [List.getElem?_set]
    split
    · rename_i hj
      subst hj
      rw [List.getElem?_map,e]
      simp [hi]
    · rfl
  have nd := S.nd
  have apart : ∀ j q,w.Mo[j]? = some q → j ≠ i → q.1 ≠ a := by
    intro j q hq hj hqa
    have h1 : w.xs[j]? = some a := by rw [Wd.xs,List.getElem?_map,hq]; simp [hqa]
    have h2 : w.xs[i]? = some a := by rw [Wd.xs,List.getElem?_map,e]; rfl
    have hjl : j < w.xs.length := (List.getElem?_eq_some_iff.mp h1).1
    have hil : i < w.xs.length := (List.getElem?_eq_some_iff.mp h2).1
    have e1 := (List.getElem?_eq_some_iff.mp h1).2
    have e2 := (List.getElem?_eq_some_iff.mp h2).2
    have pw := List.pairwise_iff_getElem.mp nd
    rcases Nat.lt_trichotomy j i with hlt | heq | hlt
    · exact absurd (e1.trans e2.symm) (pw j i hjl hil hlt)
    · exact hj heq
    · exact absurd (e2.trans e1.symm) (pw i j hil hjl hlt)
  have hmem : (a,lstO vs n) ∈ w.Mo := List.mem_of_getElem? e
  refine ⟨⟨S.below,S.dic,F,fun q hq => ?_,S.mr.set i a n' hc,by show (List.map _ _).Nodup; rw [hxs]; exact nd,fun x hx q hq => ?_,S.ap⟩,fun q hq _ => hq,fun j b hj => by show (List.map _ _)[j]? = _; rw [hxs]; exact hj⟩
  · have back : q ∈ w.all X → q.1 ≠ a → q ∈ (a,lstO vs' n') :: (w.all X).filter (·.1 ≠ a) := fun h1 h2 => .tail _ (List.mem_filter.mpr ⟨h1,by simpa using h2⟩)
    rcases List.mem_append.mp hq with h1 | h1
    · exact N q (back (by simp [h1]) (S.sp _ hmem q (by simp [h1])))
    · rcases List.mem_append.mp h1 with h1 | h1
      · obtain ⟨j,hj⟩ := List.mem_iff_getElem?.mp h1
        rw [List.getElem?_set] at hj
        split at hj
        · rename_i hji
          subst hji
          first | rw [if_pos hi] at hj | skip
          cases Option.some.inj hj
          exact N _ (.head _)
        · rename_i hji
          exact N q (back (by simp [List.mem_of_getElem? hj]) (apart j q hj fun h => hji h.symm))
      · exact N q (back (by simp [h1]) (S.sp _ hmem q (by simp [h1])))
  · have hxa : x.1 ∈ w.xs := by rw [← hxs]; exact List.mem_map_of_mem hx
    obtain ⟨y,hy,hxy⟩ := List.mem_map.mp hxa
    exact hxy ▸ S.sp y hy q hq
theorem upd_filter {a : Addr} {o o' : Obj} {l : Led} : Upd a o o' ((a,o) :: l.filter (·.1 ≠ a)) ((a,o') :: l.filter (·.1 ≠ a)) := .head fun p hp => by simpa using (List.mem_filter.mp hp).2
section
variable {ql : Bool} {prog : Program} {w : World} {K : Frag} {p : Program} {loose : List Str} {mean : ExcName → Option Value} {mg mb : Str → Option Value} {D : Nat}
  {t : Cxt} {H : MH} {wd : Wd} {s : Shared} {X : Nat → MH → Prop} {Q : AV → MH → Prop}
theorem RepS.filt {a : Addr} {o : Obj} (S : RepS t.c w.params t.m t.Y H wd s.heap) (hm : (a,o) ∈ wd.all t.Y) : News wd.g t.c.L s.heap ((a,o) :: (wd.all t.Y).filter (·.1 ≠ a)) := fun q hq => by
  rcases List.mem_cons.mp hq with rfl | hq
  · exact S.nw _ hm
  · exact S.nw q (List.mem_filter.mp hq).1
theorem ints_are {P : Params} {I : Led} {xs : List Addr} : ∀ {ns : List Int} {vs : List Value},Rs P I xs (ns.map .int) vs → IntsAre vs ns
  | [],_,h => h.nil0 ▸ .nil
  | n :: r,_,h => by obtain ⟨_,_,e,h1,h2⟩ := h.uncons; exact by obtain ⟨t,e1⟩ := h1.i; exact by rw [e,e1]; exact .cons _ t (ints_are h2)
theorem sum_K {l : Addr} {vs : List Value} {ns : List Int} {A : Around} {E : Value → Shared → Prop} {Q : Value → Shared → Prop} (hh : A.handled = none) (hl : s.heap.IsList l vs.toArray) (hi : IntsAre vs ns)
    (h : ∀ h' tk t',(∀ b o,s.heap.get? b = some o → h'.get? b = some o) → Q (.int ns.sum t') { s with heap := h',toks := tk }) : wpAny (model prog w) A (call (.builtin "sum") [.ref l]) Q E s := by
  obtain ⟨xs,hx⟩ := hi.allInts.items
  have hn : numsOf vs.toArray.toList = ns := by rw [show vs.toArray.toList = vs from rfl,hi.numsOf]
  rw [hx] at hl hn
  rw [nums_intItems] at hn
  refine sum_intListG hh hl fun h' tk t' hk => ?_
  have := h h' tk t' hk
  rw [preSum_eq,List.take_of_length_le (by simp),hn]
  exact this
theorem index_strs {l : Addr} {vs : List Value} {ys : List Str} {k : Str} {u : Tok} {A : Around} {E : Value → Shared → Prop} {Q : Value → Shared → Prop} (hl : s.heap.IsList l vs.toArray) (hi : StrsAre vs ys)
    (hb : ys.length ≤ 100000) (hk : k ∈ ys) (h : Q (.int (ys.idxOf k : Nat) s.toks) { s with toks := s.toks + 1 }) :
    wpAny (model prog w) A (call (.builtin "list.index") [.ref l,.str k u]) Q E s := by
  refine byC fun no9 => ?_
  obtain ⟨⟨cls,dd,data,sl⟩,ho,hc,n,hd⟩ := id hl
  refine no9 ?_
  clear no9
  simp only at hc hd
  subst hc hd
  have hlen := hi.length
  have hj : ys.idxOf k < ys.length := List.idxOf_lt_length_iff.mpr hk
  have at_ : ∀ {vs : List Value} {ys : List Str},StrsAre vs ys → ∀ (j : Nat) (h1 : j < vs.length) (h2 : j < ys.length),isStrOf k vs[j] = (ys[j] == k) := by
    intro vs ys h
    induction h with
    | nil => intro j h1; cases h1
    | cons n t _ ih =>
      intro j h1 h2
      cases j with
      | zero => rfl
      | succ j => exact ih j (Nat.lt_of_succ_lt_succ h1) (Nat.lt_of_succ_lt_succ h2)
  refine call_meets PySem.F.slot_list_index ⟨_,ho,rfl⟩ PySem.F.entry_list_index (PySem.F.args_list_index_2 _ _)
    (PySem.SeqAt.list_indexAt l vs.toArray n dd sl (.str k u) (isStrOf k) (ys.idxOf k) (by simpa [hlen] using hj) (by omega) ?_ ?_) ⟨ho,fun y hy => (eq_isStrOf k u hi y (by simpa using hy)).at _ _,h⟩
  · show isStrOf k vs[ys.idxOf k] = true
    rw [at_ hi _ (by omega) hj]
    simpa using List.getElem_idxOf hj
  · intro j hjs hlt
    show isStrOf k vs[j] = false
    rw [at_ hi j (by simpa using hjs) (by lia)]
    have hne : ys[j]'(by omega) ≠ k := List.not_of_lt_findIdx (p := (· == k)) (by simpa [List.idxOf] using hlt) |> fun h => by simpa using h
    simpa using hne
theorem text_int : ∀ n : Nat,n < 100 → PySem.intText? (textOf n) = some (n : Int) ∧ (textOf n).length ≤ 640 := by decide +kernel
theorem RepS.keeps (S : RepS t.c w.params t.m t.Y H wd s.heap) {h' : Heap} (hk : ∀ b o,s.heap.get? b = some o → h'.get? b = some o) : RepS t.c w.params t.m t.Y H wd h' := S.heap (S.fr.keeps hk) (S.nw.grown hk)
theorem fit63 {n : Nat} (h : n ≤ 100000) : (n : Int) < 2 ^ 63 := Int.lt_of_le_of_lt (Int.ofNat_le.mpr h) (by decide)
theorem bytes_back {ns : List Int} (hr : ∀ n ∈ ns,0 ≤ n ∧ n < 256) : (ns.map fun n => n.toNat.toUInt8).map (fun b => (b.toNat : Int)) = ns := by
  rw [List.map_map]
  conv => rhs; rw [← List.map_id ns]
  refine List.map_congr_left fun n hn => ?_
  have := hr n hn
  show ((n.toNat.toUInt8).toNat : Int) = n
  have h2 : n.toNat < 256 := by lia
  rw [show (n.toNat.toUInt8).toNat = n.toNat from by simp [Nat.toUInt8,UInt8.toNat_ofNat',Nat.mod_eq_of_lt h2]]
  exact Int.toNat_of_nonneg this.1
theorem log_lt {n : Int} {m k : Nat} (h0 : 0 ≤ n) (h1 : n < 2 ^ m) (h2 : m ≤ k) (h3 : 0 < k) : n.natAbs.log2 < k := by
  by_cases h : n.natAbs = 0
  · rw [h]; exact h3
  · exact Nat.lt_of_lt_of_le ((Nat.log2_lt h).mpr (by have := Int.natAbs_of_nonneg h0; exact Int.ofNat_lt.mp (by rw [this]; simpa using h1))) h2
inductive BfIs (Q : AV → Prop) : BF → List AV → Prop
  | abs {n} : Q (.int n.natAbs) → BfIs Q .abs [.int n]
  | int {n} : Q (.int n) → BfIs Q .int [.int n]
  | intb {c : Bool} : Q (.int (if c then 1 else 0)) → BfIs Q .int [.bool c]
  | itx {n : Nat} : n < 100 → Q (.int n) → BfIs Q .int [.str (textOf n)]
  | lenl {xs} : xs.length ≤ 100000 → Q (.int xs.length) → BfIs Q .len [.lst xs]
  | lent {xs} : xs.length ≤ 100000 → Q (.int xs.length) → BfIs Q .len [.tup xs]
  | lens {xs} : xs.length ≤ 100000 → Q (.int xs.length) → BfIs Q .len [.str xs]
  | lenb {xs} : xs.length ≤ 100000 → Q (.int xs.length) → BfIs Q .len [.bytes xs]
  | str {n} : 0 ≤ n → n < 1000000 → Q (.str (textOf n)) → BfIs Q .str [.int n]
  | sum {ns : List Int} : Q (.int ns.sum) → BfIs Q .sum [.lst (ns.map .int)]
  | bytes {ns : List Int} : (∀ n ∈ ns,0 ≤ n ∧ n < 256) → ns.length ≤ 100000 → Q (.bytes ns) → BfIs Q .bytes [.lst (ns.map .int)]
  | rng1 {n} : Q (.rng 0 n 1) → BfIs Q .range [.int n]
  | rng2 {a b} : Q (.rng a b 1) → BfIs Q .range [.int a,.int b]
  | rng3 {a b c} : 1 ≤ c → c ≤ 16 → Q (.rng a b c) → BfIs Q .range [.int a,.int b,.int c]
theorem avI_eq {a : AV} {n : Int} (e : avI a = some n) : a = .int n := by cases a <;> first | exact noneX e | exact congrArg AV.int (Option.some.inj e)
theorem avS_eq {a : AV} {n : Str} (e : avS a = some n) : a = .str n := by cases a <;> first | exact noneX e | exact congrArg AV.str (Option.some.inj e)
theorem avL_eq {a : AV} {n : List AV} (e : avL a = some n) : a = .lst n := by cases a <;> first | exact noneX e | exact congrArg AV.lst (Option.some.inj e)
theorem bfR_inv {b : BF} {k : Prop} (q : bfR b k) : b = .range ∧ k := by cases b <;> first | exact False.elim q | exact ⟨rfl,q⟩
theorem bf1_inv {b : BF} {a : AV} {Q : AV → Prop} (q : bf1 b a Q) : BfIs Q b [a] := by
  cases a <;> first | exact False.elim q | (cases b <;> first | exact False.elim q | exact .abs q | exact .int q | exact .intb q | exact .lenl q.1 q.2 | exact .lent q.1 q.2 | exact .lens q.1 q.2 | exact .lenb q.1 q.2 | exact .str q.1.1 q.1.2 q.2 | exact .rng1 q | skip)
  · obtain ⟨n,hn,rfl,q⟩ := q; exact .itx hn q
  · obtain ⟨ns,rfl,_,q⟩ := q; exact .sum q
  · obtain ⟨ns,rfl,h,h2,q⟩ := q; exact .bytes h h2 q
theorem bfV_inv {b : BF} {args : List AV} {Q : AV → Prop} (q : bfV b args Q) : BfIs Q b args := by
  rcases args with _ | ⟨a,_ | ⟨c,_ | ⟨d,_ | ⟨e,r⟩⟩⟩⟩
  · exact False.elim q
  · exact bf1_inv q
  · obtain ⟨rfl,q⟩ := bfR_inv q
    obtain ⟨i,e1,q⟩ := optP_some q
    obtain ⟨j,e2,q⟩ := optP_some q
    rw [avI_eq e1,avI_eq e2]
    exact .rng2 q
  · obtain ⟨rfl,q⟩ := bfR_inv q
    obtain ⟨i,e1,q⟩ := optP_some q
    obtain ⟨j,e2,q⟩ := optP_some q
    obtain ⟨k,e3,q⟩ := optP_some q
    simp only [avI_eq e1,avI_eq e2,avI_eq e3]
    exact .rng3 q.1.1 q.1.2 q.2
  · exact False.elim q
theorem map_cons {vs : List AV} {u : AV} {us : List AV} {Vs : List Value} (e : vs.map (view H) = u :: us) (r : wd.rep w.params vs Vs) : ∃ v vs' V Vs',Vs = V :: Vs' ∧ view H v = u ∧ wd.rep w.params [v] [V] ∧ vs'.map (view H) = us ∧ wd.rep w.params vs' Vs' := by
  cases vs with
  | nil => exact absurd e.symm (List.cons_ne_nil _ _)
  | cons v vs => obtain ⟨V,R',rfl,r1,r2⟩ := r.uncons; exact ⟨v,vs,V,R',rfl,(List.cons.inj e).1,r1,(List.cons.inj e).2,r2⟩
theorem map_one {vs : List AV} {u : AV} {Vs : List Value} (e : vs.map (view H) = [u]) (r : wd.rep w.params vs Vs) : ∃ v V,Vs = [V] ∧ view H v = u ∧ wd.rep w.params [v] [V] := by
  refine byC fun no9 => ?_
  obtain ⟨v,vs',V,Vs',rfl,e1,r1,e2,r2⟩ := map_cons e r
  refine no9 ?_
  clear no9
  cases vs' with
  | nil => exact ⟨v,V,by rw [r2.nil0],e1,r1⟩
  | cons _ _ => exact absurd e2 (List.cons_ne_nil _ _)
theorem bf_sound {b : BF} {vs : List AV} {Vs : List Value} (q : bfV b (vs.map (view H)) fun v => Q v H) (S : RepS t.c w.params t.m t.Y H wd s.heap) (r : wd.rep w.params vs Vs) : Tri prog w ql t wd s (call b.val Vs) Q X := by
  intro Qr Er hK hX
  replace q := bfV_inv q
  have fin : ∀ (lo hi st : Int) (t' u v : Tok) (tk : Nat),Q (.rng lo hi st) H → Qr (.ref s.heap.objs.size) { s with heap := s.heap.push (rangeO lo hi st t' u v),toks := tk } := fun lo hi st t' u v tk q =>
    let ⟨wd',S',st',m',_⟩ := S.addI (ql := ql) (tk := tk) (S.fr.push (rangeO lo hi st t' u v)) (News.push S.fr S.nw (rangeO lo hi st t' u v)) S.up
    hK _ _ _ _ _ q st' S' (.rng m' .nil)
  generalize e : vs.map (view H) = us at q
  cases q with
  | abs q =>
    obtain ⟨v,V,rfl,e,r⟩ := map_one e r
    obtain ⟨u,rfl⟩ := view_i r e
    refine call_abs_int fun u tk => ?_
    rw [show ∀ n : Int,(if n < 0 then -n else n) = (n.natAbs : Int) from fun n => by split <;> lia]
    exact hK _ _ _ _ _ q .tk S (.int _ _ .nil)
  | int q =>
    obtain ⟨v,V,rfl,e,r⟩ := map_one e r
    obtain ⟨u,rfl⟩ := view_i r e
    exact call_int_int (hK _ _ _ _ _ q (.refl ..) S (.int _ _ .nil))
  | intb q =>
    obtain ⟨v,V,rfl,e,r⟩ := map_one e r
    cases view_b r e
    exact call_int_bool (hK _ _ _ _ _ q .tk S (.int _ _ .nil))
  | itx hn q =>
    obtain ⟨v,V,rfl,e,r⟩ := map_one e r
    obtain ⟨u,rfl⟩ := view_s r e
    exact KIN.call_text (text_int _ hn).1 (text_int _ hn).2 (hK _ _ _ _ _ q .tk S (.int _ _ .nil))
  | lenl hz q =>
    obtain ⟨v,V,rfl,e,r⟩ := map_one e r
    obtain ⟨d,ws,n,rfl,m1,r1⟩ := view_lst S.mr r e
    have hl := r1.length
    refine len_list (items := ws.toArray) ⟨_,S.isList m1,rfl,_,rfl⟩ ?_ ?_
    · rw [List.size_toArray,hl]; exact fit63 hz
    · rw [List.size_toArray,hl]; exact hK _ _ _ _ _ q .tk S (.int _ _ .nil)
  | lent hz q =>
    obtain ⟨v,V,rfl,e,r⟩ := map_one e r
    obtain ⟨d,ws,n,rfl,m1,r1⟩ := view_t r e
    have hl := r1.length
    refine len_tuple (items := ws.toArray) ⟨_,S.allI _ m1,rfl,_,rfl⟩ ?_ ?_
    · rw [List.size_toArray,hl]; exact fit63 hz
    · rw [List.size_toArray,hl]; exact hK _ _ _ _ _ q .tk S (.int _ _ .nil)
  | lens hz q =>
    obtain ⟨v,V,rfl,e,r⟩ := map_one e r
    obtain ⟨u,rfl⟩ := view_s r e
    exact P.len_str (Int.not_le.mpr (fit63 hz)) (hK _ _ _ _ _ q .tk S (.int _ _ .nil))
  | lenb hz q =>
    obtain ⟨v,V,rfl,e,r⟩ := map_one e r
    obtain ⟨b,u,rfl,eb⟩ := view_by r e
    have hz2 : b.size = _ := (List.length_map _).symm.trans (congrArg List.length eb)
    exact len_bytes (by rw [hz2]; exact Nat.le_trans hz (by decide)) (by rw [hz2]; exact hK _ _ _ _ _ q .tk S (.int _ _ .nil))
  | str h0 h1 q =>
    obtain ⟨v,V,rfl,e,r⟩ := map_one e r
    obtain ⟨u,rfl⟩ := view_i r e
    exact P.str_of_int (log_lt (m := 20) h0 (Int.lt_trans h1 (by decide)) (by decide) (by decide)) (hK _ _ _ _ _ q .tk S (.str _ _ .nil))
  | sum q =>
    refine byC fun no9 => ?_
    obtain ⟨v,V,rfl,e,r⟩ := map_one e r
    refine no9 ?_
    clear no9
    refine byC fun no9 => ?_
    obtain ⟨d,ws,n,rfl,m1,r1⟩ := view_lst S.mr r e
    refine no9 ?_
    clear no9
    exact sum_K rfl (vs := ws) ⟨_,S.isList m1,rfl,_,rfl⟩ (ints_are r1) fun h' tk t' hk => hK _ _ _ _ _ q .mk' (S.keeps hk) (.int _ _ .nil)
  | @bytes ns hr hz q =>
    obtain ⟨v,V,rfl,e,r⟩ := map_one e r
    obtain ⟨d,ws,n,rfl,m1,r1⟩ := view_lst S.mr r e
    refine bytes_K S.fr S.nw (vs := ws) (ns := ns) ⟨_,S.isList m1,rfl,_,rfl⟩ (ints_are r1) hr ?_ rfl fun h' t k F' N' _ => ?_
    · rw [(ints_are r1).length]; exact Nat.le_trans hz (by decide)
    · exact hK _ _ _ _ _ q .mk' (S.heap F' N') (.bytes _ _ _ (bytes_back hr) .nil)
  | rng1 q =>
    obtain ⟨v,V,rfl,e,r⟩ := map_one e r
    obtain ⟨u,rfl⟩ := view_i r e
    exact call_range_1 (fin _ _ _ _ _ _ _ q)
  | rng2 q =>
    refine byC fun no9 => ?_
    obtain ⟨_,vs1,V,Vs1,rfl,e,r1,e2,r2⟩ := map_cons e r
    obtain ⟨u,rfl⟩ := view_i r1 e
    obtain ⟨v,V,rfl,e3,r3⟩ := map_one e2 r2
    obtain ⟨u,rfl⟩ := view_i r3 e3
    refine no9 ?_
    clear no9
    exact call_range_2 (fin _ _ _ _ _ _ _ q)
  | rng3 h0 h1 q =>
    refine byC fun no9 => ?_
    obtain ⟨_,vs1,V,Vs1,rfl,e,r1,e2,r2⟩ := map_cons e r
    obtain ⟨u,rfl⟩ := view_i r1 e
    obtain ⟨_,vs2,V,Vs2,rfl,e3,r3,e4,r4⟩ := map_cons e2 r2
    obtain ⟨u,rfl⟩ := view_i r3 e3
    obtain ⟨v,V,rfl,e5,r5⟩ := map_one e4 r4
    obtain ⟨u,rfl⟩ := view_i r5 e5
    refine no9 ?_
    clear no9
    exact call_range_3 (Int.ne_of_gt (Int.lt_of_lt_of_le (by decide) h0)) (fin _ _ _ _ _ _ _ q) (.inl (PyProof.noPylong_of_log2 (log_lt (m := 5) (Int.le_trans (by decide) h0) (Int.lt_of_le_of_lt h1 (by decide)) (by decide) (by decide))))
theorem e_bcall {f : EF} {n : Nat} {b : BF} {x : Str} {xp : Pos} {es : List IE} {es' : List Expr} {ps : Pos} (KO : KOk K) (hf : ESound prog w K p loose mean mg mb ql D f) (hx : t.sc.glob x = true) (hb : b.name = x) (hl : chkL (chkE n t.sc) es es' = true) (O : Cxt.Ok K p loose mean mg mb D t)
    (S : RepS t.c w.params t.m t.Y H wd s.heap) (L : LocOk prog w t wd) (q : evs f es t.l H (fun vs H1 => bfV b (vs.map (view H1)) fun v => Q v H1) X) :
    Tri prog w ql t wd s (eval (.Call (.Name x xp) es' [] ps) t.env) Q X := by
  intro Qr Er hK hX
  subst hb
  refine Call_ (e_globB KO O S hx ?_)
  have fin : ∀ vs H1 wd1 s1 Vs,(bfV b (vs.map (view H1)) fun v => Q v H1) → Step ql t.c wd s wd1 s1 → RepS t.c w.params t.m t.Y H1 wd1 s1.heap → wd1.rep w.params vs Vs → wpAny (model prog w) t.c.A (call b.val Vs) Qr Er s1 := fun vs H1 wd1 s1 Vs q1 st1 S1 r1 =>
    bf_sound q1 S1 r1 _ _ (fun v H' wd' s' V q' st' S' r' => hK v H' wd' s' V q' (st1.trans st') S' r') (on_step st1 hX)
  cases es' with
  | nil =>
    cases chkL_rn hl
    exact False.elim q
  | cons e rest =>
    refine byC fun no9 => ?_
    obtain ⟨a,r',h1,ha,hr⟩ := chkL_rc hl
    refine no9 ?_
    clear no9
    have key : wpAny (model prog w) t.c.A (spliced (backTo ps (starEach (e :: rest) t.env))) (fun vs s₁ => wpAny (model prog w) t.c.A (call b.val vs) Qr Er s₁) Er s :=
      e_args hf O hl S L q _ _ (fun vs H1 wd1 s1 Vs q1 st1 S1 r1 => fin vs H1 wd1 s1 Vs q1 st1 S1 r1) hX
    cases b
    · exact PyProof.Rows.callWith_builtin1 key (chk_star ha) (chk_plain hr)
    · exact PyProof.Rows.callWith_type1 key (chk_star ha) (chk_plain hr)
    · exact PyProof.Rows.callWith_builtin1 key (chk_star ha) (chk_plain hr)
    · exact PyProof.Rows.callWith_type1 key (chk_star ha) (chk_plain hr)
    · exact PyProof.Rows.callWith_type1 key (chk_star ha) (chk_plain hr)
    · exact PyProof.Rows.callWith_builtin1 key (chk_star ha) (chk_plain hr)
    · exact PyProof.Rows.callWith_type1 key (chk_star ha) (chk_plain hr)
end
section
variable {ql : Bool} {prog : Program} {w : World} {K : Frag} {p : Program} {loose : List Str} {mean : ExcName → Option Value} {mg mb : Str → Option Value} {D : Nat}
  {t : Cxt} {H : MH} {wd : Wd} {s : Shared} {X : Nat → MH → Prop} {Q : AV → MH → Prop}
noncomputable def SM.id : SM → String
  | .split => "str.split" | .lower => "str.lower" | .upper => "str.upper" | .find => "str.find" | .join => "str.join" | .append => "list.append" | .extend => "list.extend" | .index => "list.index"
theorem muObj {i : Nat} {a : Addr} (S : RepS t.c w.params t.m t.Y H wd s.heap) (e : wd.xs[i]? = some a) : ∃ vs n,wd.Mo[i]? = some (a,lstO vs n) := by
  simp only [Wd.xs,List.getElem?_map] at e
  cases hq : wd.Mo[i]? with
  | none => rw [hq] at e; exact noneX e
  | some q =>
    rw [hq] at e
    simp only [Option.map_some,Option.some.injEq] at e
    have hi : i < H.length := by rw [← S.mr.length]; exact (List.getElem?_eq_some_iff.mp hq).1
    refine byC fun no9 => ?_
    obtain ⟨a',vs,n,h1,_⟩ := S.mr.get (List.getElem?_eq_getElem hi)
    refine no9 ?_
    clear no9
    rw [hq] at h1
    cases Option.some.inj h1
    exact ⟨vs,n,by rw [← e]⟩
inductive SmOkIs : SM → AV → Prop
  | a {i} : SmOkIs .append (.mu i) | e {i} : SmOkIs .extend (.mu i) | i {xs} : SmOkIs .index (.lst xs)
  | s {x} : SmOkIs .split (.str x) | l {x} : SmOkIs .lower (.str x) | u {x} : SmOkIs .upper (.str x) | f {x} : SmOkIs .find (.str x) | j {x} : SmOkIs .join (.str x)
theorem smOk_inv {s : SM} {v : AV} (q : smOk s v) : SmOkIs s v := by
  cases v <;> first | exact False.elim q | (cases s <;> first | exact False.elim q | constructor)
theorem muObj' {V : Value} {i : Nat} (S : RepS t.c w.params t.m t.Y H wd s.heap) (r : wd.rep w.params [.mu i] [V]) : ∃ d vs n,V = .ref d ∧ (d,lstO vs n) ∈ wd.all t.Y :=
  by obtain ⟨d,e,h⟩ := RepV.mm r; exact by obtain ⟨vs,n,hq⟩ := muObj S h; exact ⟨d,vs,n,e,List.mem_append_right _ (List.mem_append_left _ (List.mem_of_getElem? hq))⟩
theorem meth_of {sm : SM} {v : AV} {V : Value} {pl : Sem Bool} {Qm : Value × List Value → Shared → Prop} {E : Value → Shared → Prop} (hk : smOk sm v) (S : RepS t.c w.params t.m t.Y H wd s.heap) (r : wd.rep w.params [v] [V]) (h : Qm (.builtin sm.id,[V]) s) :
    wpAny (model prog w) t.c.A (getMethod V sm.name pl) Qm E s := by
  cases smOk_inv hk with
  | a => obtain ⟨d,vs,n,rfl,m⟩ := muObj' S r; exact kl_method S.nw m PySem.F.slot_list_append PySem.F.type_list_append h
  | e => obtain ⟨d,vs,n,rfl,m⟩ := muObj' S r; exact kl_method S.nw m PySem.F.slot_list_extend PySem.F.type_list_extend h
  | i => obtain ⟨d,vs,n,rfl,m,_⟩ := RepV.ls r; exact kl_method S.nw (List.mem_append_left _ m) PySem.F.slot_list_index PySem.F.type_list_index h
  | s => obtain ⟨u,rfl⟩ := RepV.s r; exact GM.split h
  | l => obtain ⟨u,rfl⟩ := RepV.s r; exact GM.lower h
  | u => obtain ⟨u,rfl⟩ := RepV.s r; exact GM.upper h
  | f => obtain ⟨u,rfl⟩ := RepV.s r; exact GM.find h
  | j => obtain ⟨u,rfl⟩ := RepV.s r; exact GM.join h
theorem strs_rep {P : Params} {I : Led} {xs : List Addr} {vs : List Value} {ys : List Str} (h : StrsAre vs ys) : Rs P I xs (ys.map .str) vs := by
  induction h with
  | nil => exact .nil
  | cons n t _ ih => exact .str _ t ih
theorem strs_vals {P : Params} {I : Led} {xs : List Addr} : ∀ {l : List AV} {ys : List Str} {vs : List Value},strsOf l = some ys → Rs P I xs l vs → ∃ ps : List (Str × Tok),vs = strValues ps ∧ ps.map (·.1) = ys := by
  intro l
  induction l with
  | nil => intro ys vs e r; cases Option.some.inj e; cases r.nil0; exact ⟨[],rfl,rfl⟩
  | cons v l ih =>
    intro ys vs e r
    cases v <;> first | exact noneX e | skip
    rename_i y
    have e : (match strsOf l with | some l => some (y :: l) | none => none) = some ys := e
    cases hl : strsOf l with
    | none => rw [hl] at e; exact noneX e
    | some l' =>
      rw [hl] at e
      cases Option.some.inj e
      obtain ⟨V,R',rfl,h1,r'⟩ := r.uncons
      obtain ⟨u,rfl⟩ := h1.s
      obtain ⟨ps,rfl,h⟩ := ih hl r'
      exact ⟨(_,u) :: ps,rfl,by rw [List.map_cons,h]⟩
inductive SmIs (H : MH) (Q : AV → MH → Prop) : SM → AV → List AV → Prop
  | split {x} : x.length ≤ 10000 → Q (.lst ((Txt.words x).map .str)) H → SmIs H Q .split (.str x) []
  | lower {x} : x.length ≤ 10000 → Q (.str (Txt.lower x)) H → SmIs H Q .lower (.str x) []
  | upper {x} : x.length ≤ 10000 → Q (.str (Txt.upper x)) H → SmIs H Q .upper (.str x) []
  | find {x y} : Q (.int (Txt.find x y)) H → SmIs H Q .find (.str x) [.str y]
  | join {x a xs ys} : view H a = .lst xs → strsOf xs = some ys → (ys.map (·.length)).sum + ys.length ≤ 1048576 → x.length ≤ 16 → Q (.str (Txt.join x ys)) H → SmIs H Q .join (.str x) [a]
  | index {xs x ys} : strsOf xs = some ys → x ∈ ys → ys.length ≤ 100000 → Q (.int (ys.idxOf x)) H → SmIs H Q .index (.lst xs) [.str x]
  | append {i a xs} : H[i]? = some xs → xs.length ≤ 100000 → (∀ (P : Params) (I : Led) (l : List Addr) (V : Value),RepV P I l a V → RepV P I [] a V) → Q .none (H.set i (xs ++ [a])) → SmIs H Q .append (.mu i) [a]
  | extend {i ys xs} : H[i]? = some xs → xs.length ≤ 100000 → ys.length ≤ 100000 → ys ≠ [] → (∀ (P : Params) (I : Led) (l : List Addr) (Vs : List Value),Rs P I l ys Vs → Rs P I [] ys Vs) → Q .none (H.set i (xs ++ ys)) → SmIs H Q .extend (.mu i) [.lst ys]
theorem smS0_inv {s : SM} {x : Str} {H : MH} {Q : AV → MH → Prop} (q : smS0 s x fun v => Q v H) : SmIs H Q s (.str x) [] := by
  cases s <;> first | exact False.elim q | exact .split q.1 q.2 | exact .lower q.1 q.2 | exact .upper q.1 q.2
theorem smS1_inv {s : SM} {x : Str} {a : AV} {H : MH} {Q : AV → MH → Prop} (q : smS1 s x a (view H a) fun v => Q v H) : SmIs H Q s (.str x) [a] := by
  cases s <;> first | exact False.elim q | skip
  · obtain ⟨y,e,q⟩ := optP_some q; rw [avS_eq e]; exact .find q
  · obtain ⟨xs,e,q⟩ := optP_some q; obtain ⟨ys,e2,q⟩ := optP_some q; exact .join (avL_eq e) e2 q.1.1 q.1.2 q.2
theorem smL_inv {s : SM} {x : List AV} {a : AV} {H : MH} {Q : AV → MH → Prop} (q : smL s x a fun v => Q v H) : SmIs H Q s (.lst x) [a] := by
  cases s <;> first | exact False.elim q | skip
  obtain ⟨y,e,q⟩ := optP_some q; obtain ⟨ys,e2,q⟩ := optP_some q; rw [avS_eq e]; exact .index e2 q.1.1 q.1.2 q.2
theorem smM_inv {s : SM} {i : Nat} {a : AV} {H : MH} {Q : AV → MH → Prop} (q : smM s i a H Q) : SmIs H Q s (.mu i) [a] := by
  cases s <;> first | exact False.elim q | skip
  · obtain ⟨xs,e,q⟩ := optP_some q; exact .append e q.1 q.2.1 q.2.2
  · obtain ⟨ys,e1,q⟩ := optP_some q; obtain ⟨xs,e,q⟩ := optP_some q; rw [avL_eq e1]; exact .extend e q.1.1 q.1.2.1 q.1.2.2 q.2.1 q.2.2
theorem smV_inv {s : SM} {o : AV} {args : List AV} {H : MH} {Q : AV → MH → Prop} (q : smV s o args H Q) : SmIs H Q s o args := by
  rcases args with _ | ⟨a,_ | ⟨c,r⟩⟩
  · cases o <;> first | exact False.elim q | exact smS0_inv q
  · cases o <;> first | exact False.elim q | exact smS1_inv q | exact smL_inv q | exact smM_inv q
  · exact False.elim q
theorem mu_at {i : Nat} {V : Value} {xs : List AV} (S : RepS t.c w.params t.m t.Y H wd s.heap) (r : wd.rep w.params [.mu i] [V]) (hx : H[i]? = some xs) : ∃ a ws n,V = .ref a ∧ wd.Mo[i]? = some (a,lstO ws n) ∧ Rs w.params wd.I [] xs ws ∧ (a,lstO ws n) ∈ wd.all t.Y := by
  refine byC fun no9 => ?_
  obtain ⟨a,rfl,e1⟩ := RepV.mm r
  obtain ⟨a',ws,n,hm,rw'⟩ := S.mr.get hx
  refine no9 ?_
  clear no9
  simp only [Wd.xs,List.getElem?_map,hm] at e1
  cases Option.some.inj e1
  exact ⟨_,ws,n,rfl,hm,rw',List.mem_append_right _ (List.mem_append_left _ (List.mem_of_getElem? hm))⟩
theorem sm_sound {sm : SM} {v : AV} {V : Value} {vs : List AV} {Vs : List Value} (q : smV sm v vs H Q) (S : RepS t.c w.params t.m t.Y H wd s.heap) (r : wd.rep w.params [v] [V]) (rs : wd.rep w.params vs Vs) : Tri prog w ql t wd s (call (.builtin sm.id) (V :: Vs)) Q X := by
  intro Qr Er hK hX
  replace q := smV_inv q
  cases q with
  | split hz q =>
    cases rs.nil0
    obtain ⟨u,rfl⟩ := RepV.s r
    refine KSpl.split0 S.fr S.nw (fun D' l' h' k e' a' F' N' l1 => ?_) (Nat.le_trans (Nat.add_le_add_right hz 2) (by rw [sizeLine_eq]; decide))
    obtain ⟨wd',S',st',m',_⟩ := S.addI (tk := k) F' N' (fun z hz => Nat.ne_of_lt (l1 z hz))
    rw [e'] at a'
    exact hK _ _ _ _ _ q st' S' (.lst m' (strs_rep a') .nil)
  | lower hz q =>
    cases rs.nil0
    obtain ⟨u,rfl⟩ := RepV.s r
    exact SCL.lower (Nat.le_trans hz (by decide)) fun _ => hK _ _ _ _ _ q .tk S (.str _ _ .nil)
  | upper hz q =>
    cases rs.nil0
    obtain ⟨u,rfl⟩ := RepV.s r
    exact SCL.upper (Nat.le_trans hz (by decide)) fun _ => hK _ _ _ _ _ q .tk S (.str _ _ .nil)
  | find q =>
    obtain ⟨V2,rfl,r2⟩ := rs.one
    obtain ⟨u,rfl⟩ := RepV.s r
    obtain ⟨u2,rfl⟩ := RepV.s r2
    exact SC.find (hK _ _ _ _ _ q .tk S (.int _ _ .nil))
  | join e hy h1 h2 q =>
    obtain ⟨V2,rfl,r2⟩ := rs.one
    obtain ⟨u,rfl⟩ := RepV.s r
    refine byC fun no9 => ?_
    obtain ⟨d,ws,n,rfl,m1,r1⟩ := view_lst S.mr r2 e
    refine no9 ?_
    clear no9
    refine byC fun no9 => ?_
    obtain ⟨ps,rfl,hp⟩ := strs_vals hy r1
    refine no9 ?_
    clear no9
    exact SC.join ⟨_,S.isList m1,rfl,_,rfl⟩ hp (joinOk_of_weight h1 h2) fun t' k => hK _ _ _ _ _ q .tk S (.str _ _ .nil)
  | index hy h1 h2 q =>
    obtain ⟨V2,rfl,r2⟩ := rs.one
    obtain ⟨u,rfl⟩ := RepV.s r2
    obtain ⟨d,ws,n,rfl,m1,r1⟩ := RepV.ls r
    exact index_strs ⟨_,S.allI _ m1,rfl,_,rfl⟩ (strsOf_are hy r1) h2 h1 (hK _ _ _ _ _ q .tk S (.int _ _ .nil))
  | @append i a xs hx hz q1 q =>
    refine byC fun no9 => ?_
    obtain ⟨V2,rfl,r2⟩ := rs.one
    obtain ⟨a',ws,n,rfl,hm,rw',hmem⟩ := mu_at S r hx
    refine no9 ?_
    clear no9
    refine append_K (its := ws.toArray) (n := n) S.fr (S.filt hmem) (news' := (a',lstO (ws ++ [V2]) (n + 1)) :: (wd.all t.Y).filter (·.1 ≠ a')) ?_ (fun h' F' N' => ?_) (by rw [List.size_toArray,rw'.length]; exact Nat.le_trans hz (by decide))
    · have := upd_filter (a := a') (o := lstO ws n) (o' := lstO (ws ++ [V2]) (n + 1)) (l := wd.all t.Y)
      simpa only [lstO,W.listOf,List.push_toArray] using this
    · obtain ⟨S',E'⟩ := S.setM hm F' N' (rw'.app (q1 _ _ _ _ r2))
      exact hK _ _ { wd with Mo := wd.Mo.set i (a',lstO (ws ++ [V2]) (n + 1)) } _ _ q ⟨.hp,.refl,E',fun _ => rfl⟩ S' (.none .nil)
  | @extend i ys xs hx hz hz2 hne0 q1 q =>
    obtain ⟨V2,rfl,r2⟩ := rs.one
    obtain ⟨a',ws,n,rfl,hm,rw',hmem⟩ := mu_at S r hx
    obtain ⟨d,ws2,n2,rfl,m2,r2⟩ := RepV.ls r2
    have hne : d ≠ a' := S.sp _ (List.mem_of_getElem? hm) (d,lstO ws2 n2) (List.mem_append_left _ m2)
    have hl := rw'.length
    have hl2 := r2.length
    refine kl_extend (its := ws.toArray) (n := n) (its2 := ws2.toArray) (n2 := n2) (l := ws ++ ws2) S.fr (S.filt hmem) (.tail _ (List.mem_filter.mpr ⟨List.mem_append_left _ m2,by simpa using hne⟩)) rfl ?_ (upd_filter (a := a') (o := lstO ws n) (o' := lstO (ws ++ ws2) (n + 1)) (l := wd.all t.Y)) ?_ ?_ ?_ (fun h' F' N' => ?_)
    · show ws2.length ≠ 0
      rw [hl2]; intro h; exact hne0 (List.length_eq_zero_iff.mp h)
    · simp [Builtin.List.listTooLong]
      intro _
      rw [sizeLine_eq]; lia
    · show ws.length ≤ sizeLine
      rw [hl]; exact Nat.le_trans hz (by decide)
    · rw [List.size_toArray,List.size_toArray,hl,hl2]; exact Nat.le_trans (Nat.add_le_add hz hz2) (by rw [sizeLine_eq]; decide)
    · obtain ⟨S',E'⟩ := S.setM hm F' N' (rw'.app (q1 _ _ _ _ r2))
      exact hK _ _ { wd with Mo := wd.Mo.set i (a',lstO (ws ++ ws2) (n + 1)) } _ _ q ⟨.hp,.refl,E',fun _ => rfl⟩ S' (.none .nil)
theorem e_smeth {f : EF} {n : Nat} {sm : SM} {o : IE} {o' : Expr} {x : Str} {es : List IE} {es' : List Expr} {apos ps : Pos} (hf : ESound prog w K p loose mean mg mb ql D f) (hx : sm.name = x) (hs : noSuper o' = true) (hp : (apos.endLine == ps.line) = true) (hz : es'.length < 30)
    (ho : chkE n t.sc o o' = true) (hl : chkL (chkE n t.sc) es es' = true) (O : Cxt.Ok K p loose mean mg mb D t) (S : RepS t.c w.params t.m t.Y H wd s.heap) (L : LocOk prog w t wd)
    (q : f o t.l H (fun v H1 => smOk sm v ∧ evs f es t.l H1 (fun vs H2 => smV sm v vs H2 Q) X) X) :
    Tri prog w ql t wd s (eval (.Call (.Attribute o' x apos) es' [] ps) t.env) Q X := by
  intro Qr Er hK hX
  subst hx
  refine mcall hs (form_of hl hz) hp ?_
  refine hf n o o' t ho O H wd s _ X S L q _ _ (fun v H1 wd1 s1 V q1 st1 S1 r1 => ?_) hX
  refine meth_of q1.1 S1 r1 ?_
  have fin : ∀ vs H2 wd2 s2 Vs,smV sm v vs H2 Q → Step ql t.c wd1 s1 wd2 s2 → RepS t.c w.params t.m t.Y H2 wd2 s2.heap → wd2.rep w.params vs Vs → wpAny (model prog w) t.c.A (call (.builtin sm.id) ([V] ++ Vs)) Qr Er s2 := fun vs H2 wd2 s2 Vs q2 st2 S2 r2 =>
    sm_sound q2 S2 (r1.step st2) r2 _ _ (fun v H' wd' s' V q' st' S' r' => hK v H' wd' s' V q' ((st1.trans st2).trans st') S' r') (on_step (st1.trans st2) hX)
  cases es' with
  | nil =>
    cases chkL_rn hl
    exact callWith_method0 (by simpa using fin [] H1 wd1 s1 [] q1.2 (.refl ..) S1 .nil)
  | cons e rest =>
    refine byC fun no9 => ?_
    obtain ⟨a,r',h1,ha,hr⟩ := chkL_rc hl
    refine no9 ?_
    clear no9
    refine callWith_method1 ?_ (chk_star ha) (chk_plain hr)
    exact e_args hf O hl S1 (L.step prog w st1) q1.2 _ _ (fun vs H2 wd2 s2 Vs q2 st2 S2 r2 => fin vs H2 wd2 s2 Vs q2 st2 S2 r2) (on_step st1 hX)
end
section
variable {f : Sc → IE → Expr → Bool} {sc : Sc} {e : Expr}
theorem inv_call {g : Nat} {es : List IE} (h : stepC f sc (.call g es) e = true) {CC : Expr → Prop} (kk : ∀ x xp es' p,sc.glob x = true → ftab.lookup x = some g → chkL (f sc) es es' = true → CC (.Call (.Name x xp) es' [] p)) : CC e := by
  have h : callN e (fun x es' => sc.glob x && ftab.lookup x == some g && chkL (f sc) es es') = true := h
  obtain ⟨x,xp,es',p,e1,h⟩ := callN_eq h
  have h := and3 h
  exact cps e1 (kk x xp es' p h.1 (beq_iff_eq.mp h.2.1) h.2.2)
theorem inv_bcall {b : BF} {es : List IE} (h : stepC f sc (.bcall b es) e = true) {CC : Expr → Prop} (kk : ∀ x xp es' p,sc.glob x = true → b.name = x → chkL (f sc) es es' = true → CC (.Call (.Name x xp) es' [] p)) : CC e := by
  have h : callN e (fun x es' => sc.glob x && b.name == x && chkL (f sc) es es') = true := h
  obtain ⟨x,xp,es',p,e1,h⟩ := callN_eq h
  have h := and3 h
  exact cps e1 (kk x xp es' p h.1 (beq_iff_eq.mp h.2.1) h.2.2)
theorem inv_meth {g : Nat} {o : IE} {es : List IE} (h : stepC f sc (.meth g o es) e = true) {CC : Expr → Prop} (kk : ∀ o' x apos es' p,mtab.lookup x = some g → f sc o o' = true → chkL (f sc) es es' = true → noSuper o' = true → (apos.endLine == p.line) = true → es'.length < 30 → CC (.Call (.Attribute o' x apos) es' [] p)) : CC e := by
  have h : callM e (fun o' x apos es' pos => mtab.lookup x == some g && f sc o o' && chkL (f sc) es es' && (noSuper o' && apos.endLine == pos.line && decide (es'.length < 30))) = true := h
  obtain ⟨o',x,xp,es',p,e1,h⟩ := callM_eq h
  have h := and4 h
  have h2 := and3 h.2.2.2
  exact cps e1 (kk o' x xp es' p (beq_iff_eq.mp h.1) h.2.1 h.2.2.1 h2.1 h2.2.1 (of_decide_eq_true h2.2.2))
theorem inv_smeth {g : SM} {o : IE} {es : List IE} (h : stepC f sc (.smeth g o es) e = true) {CC : Expr → Prop} (kk : ∀ o' x apos es' p,g.name = x → f sc o o' = true → chkL (f sc) es es' = true → noSuper o' = true → (apos.endLine == p.line) = true → es'.length < 30 → CC (.Call (.Attribute o' x apos) es' [] p)) : CC e := by
  have h : callM e (fun o' x apos es' pos => g.name == x && f sc o o' && chkL (f sc) es es' && (noSuper o' && apos.endLine == pos.line && decide (es'.length < 30))) = true := h
  obtain ⟨o',x,xp,es',p,e1,h⟩ := callM_eq h
  have h := and4 h
  have h2 := and3 h.2.2.2
  exact cps e1 (kk o' x xp es' p (beq_iff_eq.mp h.1) h.2.1 h.2.2.1 h2.1 h2.2.1 (of_decide_eq_true h2.2.2))
theorem inv_attr {C k : Nat} {o : IE} (h : stepC f sc (.attr o C k) e = true) {CC : Expr → Prop} (kk : ∀ o' x p,(fieldsOf C)[k]? = some x → f sc o o' = true → noSuper o' = true → CC (.Attribute o' x p)) : CC e :=
  by obtain ⟨z,h1,h⟩ := optB_some h; exact let h := and3 h
  cps (attE_eq h1) (kk z.1 z.2.1 z.2.2 (beq_iff_eq.mp h.1) h.2.1 h.2.2)
theorem inv_idx {o i : IE} (h : stepC f sc (.idx o i) e = true) {CC : Expr → Prop} (kk : ∀ o' i' p,isSlice i' = false → f sc o o' = true → f sc i i' = true → CC (.Subscript o' i' p)) : CC e :=
  by obtain ⟨z,h1,h⟩ := optB_some h; exact let h := and3 h
  cps (subE_eq h1) (kk z.1 z.2.1 z.2.2 (not_f h.1) h.2.1 h.2.2)
theorem inv_slice {o : IE} {lo hi : Option IE} (h : stepC f sc (.slice o lo hi) e = true) {CC : Expr → Prop} (kk : ∀ o' lo' hi' p2 p,f sc o o' = true → chkO (f sc) lo lo' = true → chkO (f sc) hi hi' = true → CC (.Subscript o' (.Slice lo' hi' none p2) p)) : CC e :=
  by obtain ⟨z,h1,h⟩ := optB_some h; exact let ⟨y,h2,h⟩ := optB_some h; let ⟨p2,e2⟩ := slcE_eq h2; let h := and3 h
  cps (by rw [subE_eq h1,e2,none_of h.1]) (kk z.1 y.1 y.2.1 p2 z.2.2 h.2.1 ((and2 h.2.2).1) ((and2 h.2.2).2))
theorem inv_tup {es : List IE} (h : stepC f sc (.tup es) e = true) {CC : Expr → Prop} (kk : ∀ es' k p,chkL (f sc) es es' = true → CC (.Tuple es' k p)) : CC e :=
  by obtain ⟨z,h1,h⟩ := optB_some h; exact cps (tupE_eq h1) (kk z.1 z.2.1 z.2.2 h)
theorem inv_lst {mu : Bool} {es : List IE} (h : stepC f sc (.lst mu es) e = true) {CC : Expr → Prop} (kk : ∀ es' p,chkL (f sc) es es' = true → CC (.List es' p)) : CC e :=
  by obtain ⟨z,h1,h⟩ := optB_some h; exact by obtain ⟨p,e1⟩ := lstE_eq h1; exact cps e1 (kk z p h)
end
theorem fits {x : Int} (h0 : -2000000 ≤ x) (h1 : x ≤ 2000000) : -2 ^ 63 ≤ x ∧ x < 2 ^ 63 := ⟨Int.le_trans (by decide) h0,Int.lt_of_le_of_lt h1 (by decide)⟩
theorem range_small {a b c : Int} (h : 1 ≤ c ∧ c ≤ 16 ∧ -1000000 ≤ a ∧ a ≤ 1000000 ∧ -1000000 ≤ b ∧ b ≤ 1000000) : Builtin.Range.small a b c = true ∧ 0 ≤ Builtin.Range.rangeSize a b c ∧ Builtin.Range.rangeSize a b c ≤ 2000000 := by
  refine byC fun no9 => ?_
  obtain ⟨c1,c2,a1,a2,b1,b2⟩ := h
  refine no9 ?_
  clear no9
  have hn : 0 ≤ Builtin.Range.rangeSize a b c ∧ Builtin.Range.rangeSize a b c ≤ 2000000 := by
    unfold Builtin.Range.rangeSize
    rw [if_pos (Int.lt_of_lt_of_le (by decide) c1)]
    split
    · rename_i hlt
      have h0 : 0 ≤ b - a - 1 := Int.sub_nonneg_of_le (Int.add_one_le_of_lt (a := 0) (Int.sub_pos_of_lt hlt))
      have h1 : 0 ≤ (b - a - 1) / c := Int.ediv_nonneg h0 (Int.le_trans (by decide) c1)
      have h2 : (b - a - 1) / c ≤ b - a - 1 := Int.ediv_le_self _ h0
      exact ⟨Int.add_nonneg h1 (by decide),by clear c1 c2 h0 h1; omega⟩
    · exact ⟨Int.le_refl 0,by decide⟩
  refine ⟨?_,hn⟩
  unfold Builtin.Range.small
  generalize Builtin.Range.rangeSize a b c = n at hn
  have hc : c > 0 := Int.lt_of_lt_of_le (by decide) c1
  simp only [Builtin.Range.rangeFitsLong,hc,if_true,Bool.and_eq_true,Bool.or_eq_true,decide_eq_true_eq,beq_iff_eq]
  exact ⟨⟨⟨⟨fits (Int.le_trans (by decide) a1) (Int.le_trans a2 (by decide)),fits (Int.le_trans (by decide) b1) (Int.le_trans b2 (by decide))⟩,fits (Int.le_trans (by decide) c1) (Int.le_trans c2 (by decide))⟩,fits (Int.le_trans (by decide) hn.1) hn.2⟩,
    .inr (fits (Int.le_trans (by decide) (Int.add_le_add b1 (Int.sub_nonneg_of_le c1))) (Int.le_trans (Int.add_le_add b2 (Int.sub_le_sub_right c2 1)) (by decide)))⟩
noncomputable def IterO (o : Obj) : Prop := ∃ n vs,o.cls = .type n ∧ o.data = .fields vs ∧ (["enumerate","zip","dict_itemiterator","dict_reverseitemiterator","odict_iterator","itertools.zip_longest","itertools.pairwise"] : List String).contains n = false
inductive SrcOk (prog : Program) (w : World) (A : Around) (s : Shared) (I : Led) (rep : AV → Value → Prop) (vs : List AV) : Value → Shared → Prop
  | mk (fp : List Addr) (P : Nat → Value → Prop) (St : Nat → Heap → Prop) (o : Obj) (W : Walks prog w A s.heap.objs.size fp [s.heap.objs.size] vs.length P St)
    (h1 : ∀ i h,St i h → ∃ o,h.get? s.heap.objs.size = some o ∧ IterO o) (h2 : ∀ i h h' o,St i h → h.get? s.heap.objs.size = some o → h'.get? s.heap.objs.size = some o → (∀ q ∈ I,¬ Tb q → h'.get? q.1 = some q.2) → St i h')
    (h3 : St 0 (s.heap.push o)) (h4 : ∀ b ∈ fp,b = s.heap.objs.size ∨ ∃ o,(b,o) ∈ I) (h5 : ∀ i V,P i V → ∃ u,vs[i]? = some u ∧ rep u V) : SrcOk prog w A s I rep vs (.ref s.heap.objs.size) { s with heap := s.heap.push o }
section
variable {prog : Program} {w : World} {A : Around} {s : Shared} {P : Params} {wd : Wd} {E : Value → Shared → Prop} {Q : Value → Shared → Prop}
theorem src_list {vs : List AV} {ws : List Value} {a : Addr} {c : Nat} (hh : A.handled = none) (m : (a,lstO ws c) ∈ wd.I) (r1 : wd.rep P vs ws) (hI : ∀ q ∈ wd.I,s.heap.get? q.1 = some q.2)
    (h : ∀ it s2,SrcOk prog w A s wd.I (fun u U => wd.rep P [u] [U]) vs it s2 → Q it s2) : wpAny (model prog w) A (pyIter (.ref a)) Q E s := by
  have hl : s.heap.IsList a ws.toArray := ⟨_,hI _ m,rfl,_,rfl⟩
  have W := Walks.list (prog := prog) (w := w) hh s.heap.objs.size a (Nat.ne_of_lt (Heap.lt_size (hI _ m))) ws.toArray
  have hz : ws.toArray.size = vs.length := List.size_toArray.trans r1.length
  rw [hz] at W
  refine wpAny_pyIter_list hl (h _ _ (.mk _ _ _ _ W (fun i h ⟨⟨o,ho,ic,id⟩,_⟩ => ⟨o,ho,_,_,ic,id,by decide⟩) ?_ ⟨⟨_,Heap.get?_push_size _ rfl,rfl,rfl⟩,hl.push _⟩ ?_ fun i U hU => r1.getV (by simpa using hU)))
  · rintro i h h' o ⟨⟨o',ho',h1,h2⟩,_⟩ h3 h4 h5
    cases Option.some.inj (h3.symm.trans ho')
    exact ⟨⟨o,h4,h1,h2⟩,⟨_,h5 _ m (Tb.cl fun h => Value.noConfusion h),rfl,_,rfl⟩⟩
  · intro b hb
    rcases List.mem_cons.mp hb with e | hb
    · exact .inl e
    · exact .inr ⟨_,List.mem_singleton.mp hb ▸ m⟩
theorem src_tup {vs : List AV} {ws : List Value} {a : Addr} {c : Nat} (hh : A.handled = none) (m : (a,tupO ws c) ∈ wd.I) (r1 : wd.rep P vs ws) (hI : ∀ q ∈ wd.I,s.heap.get? q.1 = some q.2)
    (h : ∀ it s2,SrcOk prog w A s wd.I (fun u U => wd.rep P [u] [U]) vs it s2 → Q it s2) : wpAny (model prog w) A (pyIter (.ref a)) Q E s := by
  have hl : s.heap.IsTuple a ws.toArray := ⟨_,hI _ m,rfl,_,rfl⟩
  have W := Walks.tuple (prog := prog) (w := w) hh s.heap.objs.size a (Nat.ne_of_lt (Heap.lt_size (hI _ m))) ws.toArray
  have hz : ws.toArray.size = vs.length := List.size_toArray.trans r1.length
  rw [hz] at W
  refine wpAny_pyIter_tuple hl (h _ _ (.mk _ _ _ _ W (fun i h ⟨⟨o,ho,ic,id⟩,_⟩ => ⟨o,ho,_,_,ic,id,by decide⟩) ?_ ⟨⟨_,Heap.get?_push_size _ rfl,rfl,rfl⟩,hl.push _⟩ ?_ fun i U hU => r1.getV (by simpa using hU)))
  · rintro i h h' o ⟨⟨o',ho',h1,h2⟩,_⟩ h3 h4 h5
    cases Option.some.inj (h3.symm.trans ho')
    exact ⟨⟨o,h4,h1,h2⟩,⟨_,h5 _ m (Tb.cl fun h => Value.noConfusion h),rfl,_,rfl⟩⟩
  · intro b hb
    rcases List.mem_cons.mp hb with e | hb
    · exact .inl e
    · exact .inr ⟨_,List.mem_singleton.mp hb ▸ m⟩
theorem it_again {sz : Nat} {n : String} {d : Data} {h h' : Heap} {o : Obj} (x : ∃ o',h.get? sz = some o' ∧ o'.cls = .type n ∧ o'.data = d) (h3 : h.get? sz = some o) (h4 : h'.get? sz = some o) : ∃ o',h'.get? sz = some o' ∧ o'.cls = .type n ∧ o'.data = d := by
  refine byC fun no9 => ?_
  obtain ⟨o',ho',h1,h2⟩ := x
  refine no9 ?_
  clear no9
  cases Option.some.inj (h3.symm.trans ho')
  exact ⟨_,h4,h1,h2⟩
theorem src_str {x : Str} {t : Tok} (hh : A.handled = none)
    (h : ∀ it s2,SrcOk prog w A s wd.I (fun u U => wd.rep P [u] [U]) (x.cps.toList.map fun n => .str ⟨#[n]⟩) it s2 → Q it s2) : wpAny (model prog w) A (pyIter (.str x t)) Q E s := by
  have key : ∀ i U,SignAt x i U → ∃ u,(x.cps.toList.map fun n => AV.str ⟨#[n]⟩)[i]? = some u ∧ wd.rep P [u] [U] := by
    rintro i U ⟨c,u,h1,rfl⟩
    exact ⟨.str ⟨#[c]⟩,by rw [List.getElem?_map,Array.getElem?_toList,h1]; rfl,.str _ _ .nil⟩
  have hz : (x.cps.toList.map fun n => AV.str ⟨#[n]⟩).length = x.cps.size := by rw [List.length_map,Array.length_toList]
  cases ha : x.cps.all (· < 128)
  · have W := Walks.strWide (prog := prog) (w := w) hh s.heap.objs.size x t
    rw [← hz] at W
    exact wpAny_pyIter_wide ha (h _ _ (.mk _ (SignAt x) _ _ W (fun i h ⟨o,ho,ic,id⟩ => ⟨o,ho,_,_,ic,id,by decide⟩) (fun i h h' o x h3 h4 _ => it_again x h3 h4) ⟨_,Heap.get?_push_size _ rfl,rfl,rfl⟩ (fun b hb => .inl (List.mem_singleton.mp hb)) key))
  · have W := Walks.strAscii (prog := prog) (w := w) hh s.heap.objs.size x t
    rw [← hz] at W
    exact wpAny_pyIter_ascii ha (h _ _ (.mk _ (SignAt x) _ _ W (fun i h ⟨o,ho,ic,id⟩ => ⟨o,ho,_,_,ic,id,by decide⟩) (fun i h h' o x h3 h4 _ => it_again x h3 h4) ⟨_,Heap.get?_push_size _ rfl,rfl,rfl⟩ (fun b hb => .inl (List.mem_singleton.mp hb)) key))
theorem src_bytes {b : Array UInt8} {t : Tok} (hh : A.handled = none)
    (h : ∀ it s2,SrcOk prog w A s wd.I (fun u U => wd.rep P [u] [U]) ((b.toList.map fun b => (b.toNat : Int)).map .int) it s2 → Q it s2) : wpAny (model prog w) A (pyIter (.bytes b t)) Q E s := by
  have hz : ((b.toList.map fun b => (b.toNat : Int)).map AV.int).length = b.size := by rw [List.length_map,List.length_map,Array.length_toList]
  have W := KBw.walks (prog := prog) (w := w) hh s.heap.objs.size b t
  rw [← hz] at W
  refine KBw.pyIter_bytes (h _ _ (.mk _ _ _ _ W (fun i h ⟨o,ho,ic,id⟩ => ⟨o,ho,_,_,ic,id,by decide⟩) (fun i h h' o x h3 h4 _ => it_again x h3 h4) ⟨_,Heap.get?_push_size _ rfl,rfl,rfl⟩ (fun b hb => .inl (List.mem_singleton.mp hb)) ?_))
  rintro i U ⟨c,u,h1,rfl⟩
  exact ⟨.int c.toNat,by rw [List.getElem?_map,List.getElem?_map,Array.getElem?_toList,h1]; rfl,.int _ _ .nil⟩
theorem src_rng {lo hi st : Int} {a : Addr} {t u v : Tok} (hh : A.handled = none) (m : (a,rangeO lo hi st t u v) ∈ wd.I) (hI : ∀ q ∈ wd.I,s.heap.get? q.1 = some q.2) (hb : 1 ≤ st ∧ st ≤ 16 ∧ -1000000 ≤ lo ∧ lo ≤ 1000000 ∧ -1000000 ≤ hi ∧ hi ≤ 1000000)
    (h : ∀ it s2,SrcOk prog w A s wd.I (fun u U => wd.rep P [u] [U]) ((List.range (Builtin.Range.rangeSize lo hi st).toNat).map fun (i : Nat) => AV.int (lo + (i : Int) * st)) it s2 → Q it s2) : wpAny (model prog w) A (pyIter (.ref a)) Q E s := by
  refine byC fun no9 => ?_
  obtain ⟨h1,h2,h3⟩ := range_small hb
  refine no9 ?_
  clear no9
  have hz : ((List.range (Builtin.Range.rangeSize lo hi st).toNat).map fun (i : Nat) => AV.int (lo + (i : Int) * st)).length = (Builtin.Range.rangeSize lo hi st).toNat := by rw [List.length_map,List.length_range]
  have hw := (Walks.range (prog := prog) (w := w) hh s.heap.objs.size lo st (Builtin.Range.rangeSize lo hi st).toNat).bound
  refine wpAny_pyIter_range (hI _ m) h1 (h _ _ (.mk _ (fun i v => i < (Builtin.Range.rangeSize lo hi st).toNat ∧ ∃ t,v = Value.int (lo + ↑i * st) t) (fun i h => IsRangeIter h s.heap.objs.size (lo + ↑i * st) (↑(Builtin.Range.rangeSize lo hi st).toNat - ↑i) st) _ (by rw [hz]; exact hw) ?_ ?_ ?_ (fun b hb => .inl (List.mem_singleton.mp hb)) ?_))
  · exact fun i h hs => ⟨_,hs,_,_,rfl,rfl,by decide⟩
  · intro i h h' o hs h3 h4 h5
    have hs' : h.get? _ = _ := hs
    show h'.get? _ = _
    simp only [h4,← h3,hs']
  · show (s.heap.push _).get? _ = _
    rw [Heap.get?_push_size _ rfl]
    simp [h2,Int.max_eq_left h2]
  · rintro i U ⟨hi',t',rfl⟩
    exact ⟨.int (lo + (i : Int) * st),by rw [List.getElem?_map,List.getElem?_range hi']; rfl,.int _ _ .nil⟩
theorem iter_src {v : AV} {V : Value} {vs : List AV} (hh : A.handled = none) (e : itemsOf v = some vs) (r : wd.rep P [v] [V]) (hI : ∀ q ∈ wd.I,s.heap.get? q.1 = some q.2)
    (h : ∀ it s2,SrcOk prog w A s wd.I (fun u U => wd.rep P [u] [U]) vs it s2 → Q it s2) : wpAny (model prog w) A (pyIter V) Q E s := by
  cases v <;> first | exact noneX e | skip
  · cases Option.some.inj e
    obtain ⟨t,rfl⟩ := RepV.s r
    exact src_str hh h
  · cases Option.some.inj e
    obtain ⟨b,t,rfl,rfl⟩ := RepV.by' r
    exact src_bytes hh h
  · cases Option.some.inj e
    obtain ⟨_,_,_,rfl,m,r1⟩ := RepV.tu r
    exact src_tup hh m r1 hI h
  · cases Option.some.inj e
    obtain ⟨_,_,_,rfl,m,r1⟩ := RepV.ls r
    exact src_list hh m r1 hI h
  · rename_i lo hi st
    have e : (if 1 ≤ st ∧ st ≤ 16 ∧ -1000000 ≤ lo ∧ lo ≤ 1000000 ∧ -1000000 ≤ hi ∧ hi ≤ 1000000 then some ((List.range (Builtin.Range.rangeSize lo hi st).toNat).map fun (i : Nat) => AV.int (lo + (i : Int) * st)) else none) = some vs := e
    by_cases hb : 1 ≤ st ∧ st ≤ 16 ∧ -1000000 ≤ lo ∧ lo ≤ 1000000 ∧ -1000000 ≤ hi ∧ hi ≤ 1000000
    · rw [if_pos hb] at e
      cases Option.some.inj e
      obtain ⟨_,_,_,_,rfl,m⟩ := RepV.rn r
      exact src_rng hh m hI hb h
    · rw [if_neg hb] at e; exact noneX e
end
end Mine.Internal
open LCg LCt
namespace Mine.Internal
theorem clos_go {env : Env} : ∀ (names : List (Str × NameKind)) (cs : List (Str × Addr)),(∀ y ∈ names,y.2 = .free → ∃ a,env.cells.lookup y.1 = some a) →
    ∃ cl,(forIn names cs fun (y : Str × NameKind) (cs : List (Str × Addr)) => (match y with | (name,kind) => if kind == NameKind.free then (do let a ← cellOf env name; pure (ForInStep.yield ((name,a) :: cs))) else pure (ForInStep.yield cs) : Sem (ForInStep (List (Str × Addr))))) = pure cl ∧
      (∀ y a,cs.lookup y = some a → env.cells.lookup y = some a → cl.lookup y = some a) ∧ (∀ y,(y,NameKind.free) ∈ names → cl.lookup y = env.cells.lookup y)
  | [],cs,_ => ⟨cs,rfl,fun _ _ h _ => h,fun _ h => (List.not_mem_nil h).elim⟩
  | (n,k) :: r,cs,h => by
    have hr : ∀ y ∈ r,y.2 = .free → ∃ a,env.cells.lookup y.1 = some a := fun y hy => h y (.tail _ hy)
    simp only [List.forIn_cons]
    by_cases hk : k = .free
    · subst hk
      obtain ⟨a,ha⟩ := h (n,.free) (.head _) rfl
      have hc : cellOf env n = pure a := by unfold cellOf; rw [ha]
      refine byC fun no9 => ?_
      obtain ⟨cl,e,h1,h2⟩ := clos_go r ((n,a) :: cs) hr
      refine no9 ?_
      clear no9
      refine ⟨cl,?_,fun y b hb hb2 => ?_,fun y hy => ?_⟩
      · simp only [beq_self_eq_true,if_true,hc]
        exact e
      · by_cases hyn : y = n
        · subst hyn
          rw [ha] at hb2; cases Option.some.inj hb2
          exact h1 y a (by simp [List.lookup]) ha
        · refine h1 y b ?_ hb2
          have : (y == n) = false := by simpa using hyn
          rw [List.lookup,this]; exact hb
      · rcases List.mem_cons.mp hy with hy | hy
        · cases hy
          simp only [ha]
          exact h1 n a (by simp [List.lookup]) ha
        · exact h2 y hy
    · have hb : (k == NameKind.free) = false := by simpa using hk
      refine byC fun no9 => ?_
      obtain ⟨cl,e,h1,h2⟩ := clos_go r cs hr
      refine no9 ?_
      clear no9
      refine ⟨cl,?_,h1,fun y hy => ?_⟩
      · simp only [hb,Bool.false_eq_true,if_false]
        exact e
      · rcases List.mem_cons.mp hy with hy | hy
        · cases hy; exact absurd rfl hk
        · exact h2 y hy
theorem clos_of {env : Env} {scope : Scope} (h : ∀ y ∈ scope.names,y.2 = .free → ∃ a,env.cells.lookup y.1 = some a) : ∃ cl,closureFor scope env = pure cl ∧ ∀ y,(y,NameKind.free) ∈ scope.names → cl.lookup y = env.cells.lookup y := by
  refine byC fun no9 => ?_
  obtain ⟨cl,e,_,h2⟩ := clos_go scope.names [] h
  refine no9 ?_
  clear no9
  refine ⟨cl,?_,h2⟩
  unfold closureFor
  exact congrArg (fun z : Sem (List (Str × Addr)) => z >>= fun s => pure s) e
theorem lookup_mem {x : Str} {k : NameKind} : ∀ {l : List (Str × NameKind)},l.lookup x = some k → (x,k) ∈ l
  | [],h => nomatch h
  | (n,j) :: r,h => by
    simp only [List.lookup] at h
    split at h
    · rename_i hb; cases h; rw [eq_of_beq hb]; exact .head _
    · exact .tail _ (lookup_mem h)
theorem lookup_relabel {env : Env} {x : Str} {k : NameKind} (hk : k ≠ .free) : ∀ {names : List (Str × NameKind)},names.lookup x = some k →
    (names.map fun (n,k) => if (k == NameKind.free && env.scope.kind == .function && env.kindOf n == some .cell) then (n,NameKind.cell) else (n,k)).lookup x = some k
  | [],h => nomatch h
  | (n,j) :: r,h => by
    simp only [List.lookup] at h
    rw [List.map_cons]
    split at h
    · rename_i hb
      cases h
      have : (k == NameKind.free) = false := by simpa using hk
      simp only [this,Bool.false_and,Bool.false_eq_true,if_false,List.lookup,hb]
    · rename_i hb
      dsimp only
      have := lookup_relabel (env := env) hk h
      split <;> (rw [List.lookup]; simp only [hb]; exact this)
theorem lookup_relabel_free {env : Env} {x : Str} (he : env.scope.kind = .function) (hc : env.kindOf x = some .cell) : ∀ {names : List (Str × NameKind)},names.lookup x = some .free →
    (names.map fun (n,k) => if (k == NameKind.free && env.scope.kind == .function && env.kindOf n == some .cell) then (n,NameKind.cell) else (n,k)).lookup x = some .cell
  | [],h => noneX h
  | (n,j) :: r,h => by
    simp only [List.lookup] at h
    rw [List.map_cons]
    split at h
    · rename_i hb
      cases h
      have hn := eq_of_beq hb
      subst hn
      simp [he,hc,List.lookup]
    · rename_i hb
      dsimp only
      have := lookup_relabel_free he hc h
      split <;> (rw [List.lookup]; simp only [hb]; exact this)
theorem RepS.drop {c : FrameCx} {P : Params} {m : Str → Option Value} {X Z : Led} {H : MH} {w : Wd} {h : Heap} (S : RepS c P m (Z ++ X) H w h) : RepS c P m X H w h :=
  ⟨S.below,S.dic,S.fr,fun q hq => S.nw q (by simp only [Wd.all,List.mem_append] at hq ⊢; rcases hq with h | h | h <;> simp [h]),S.mr,S.nd,fun e he q hq => S.sp e he q (by rcases List.mem_append.mp hq with h | h <;> simp [h]),fun q hq x hx => S.ap q hq x (by simp [hx])⟩
section
variable {prog : Program} {w : World} {K : Frag} {p : Program} {loose : List Str} {mean : ExcName → Option Value} {mg mb : Str → Option Value} {D : Nat}
  {t : Cxt}
noncomputable def inner (t : Cxt) (s : Scope) (cl : List (Str × Addr)) (x : Str) (fr : List Nat) (I : Addr) (oI : Obj) (C : Addr) (oC : Obj) (Dd : Addr) (Acc : List Value) (u : AV) : Cxt :=
  { c := t.c,env := compEnvC s cl C t.env,sc := inSc t.sc s x fr,m := t.m,Y := [(I,oI),(C,oC),(Dd,LCg.lst Acc)] ++ t.Y,l := some u :: fr.map fun k => (t.l[k]?).getD none }
theorem compOk_parts {sc : Sc} {s : Scope} {x : Str} {fr : List Nat} (h : compOk sc s x fr = true) : s.kind = .function ∧ (∀ y ∈ s.names,y.2 ≠ .cell) ∧ (∀ y ∈ s.names,y.2 = .local → s.names.lookup y.1 = some .local) ∧ (∀ y ∈ s.names,y.2 = .free → y.1 ∈ sc.cells) ∧
    s.names.lookup x = some .local ∧ notDebug x = true ∧ ∀ k ∈ fr,∃ y,sc.slots[k]? = some y ∧ y ∈ sc.cells ∧ s.names.lookup y = some .free ∧ notDebug y = true := by
  unfold compOk at h
  simp only [Bool.and_eq_true,List.all_eq_true,beq_iff_eq,bne_iff_ne,Bool.or_eq_true,ne_eq] at h
  refine byC fun no9 => ?_
  obtain ⟨⟨⟨⟨h1,h2⟩,h3⟩,h4⟩,h5⟩ := h
  refine no9 ?_
  clear no9
  refine ⟨h1,fun y hy => (h2 y hy).1.1,fun y hy e => ?_,fun y hy e => ?_,h3,h4,fun k hk => ?_⟩
  · rcases (h2 y hy).1.2 with h | h
    · exact absurd e h
    · exact h
  · rcases (h2 y hy).2 with h | h
    · exact absurd e h
    · simpa using h
  · have := h5 k hk
    cases e : sc.slots[k]? with
    | none => rw [e] at this; exact falseX this
    | some y =>
      rw [e] at this
      simp only [Bool.and_eq_true,beq_iff_eq] at this
      exact ⟨y,rfl,by simpa using this.1.1,this.1.2,this.2⟩
theorem inner_ok {s : Scope} {cl : List (Str × Addr)} {x : Str} {fr : List Nat} {I : Addr} {oI : Obj} {C : Addr} {oC : Obj} {Dd : Addr} {Acc : List Value} {u : AV} (O : Cxt.Ok K p loose mean mg mb D t) (hc : compOk t.sc s x fr = true) : Cxt.Ok K p loose mean mg mb D (inner t s cl x fr I oI C oC Dd Acc u) where
  c := O.c
  gl := O.gl
  bi := O.bi
  fn := (compOk_parts hc).1
  kd := fun y hy => lookup_relabel (by decide) hy
  cel := fun y hy => by cases hy
  room := O.room
  tb := fun _ _ h => by exact noneX h
  units := O.units
theorem inner_loc {wd : Wd} {s : Scope} {cl : List (Str × Addr)} {x : Str} {fr : List Nat} {I : Addr} {oI : Obj} {C : Addr} {oC : Obj} {Dd : Addr} {Acc : List Value} {u : AV} {V : Value} {m₂ : Str → Option Value} (O : Cxt.Ok K p loose mean mg mb D t) (hc : compOk t.sc s x fr = true)
    (hcl : ∀ y,(y,NameKind.free) ∈ s.names → cl.lookup y = t.env.cells.lookup y) (L : LocOk prog w t wd) (hn : LCg.NsObj oC m₂) (hm : m₂ x = some V) (r : wd.rep w.params [u] [V]) : LocOk prog w (inner t s cl x fr I oI C oC Dd Acc u) wd := by
  refine byC fun no9 => ?_
  obtain ⟨c1,c2,c3,c4,c5,c6,c7⟩ := compOk_parts hc
  refine no9 ?_
  clear no9
  intro k v e
  cases k with
  | zero =>
    cases Option.some.inj e
    refine ⟨x,V,rfl,r,?_,fun h => by cases h⟩
    intro A E Q s1 pos g F hY hI q
    have hC : s1.heap.get? C = some oC := hY (C,oC) (.tail _ (.head _))
    exact wpAny_Name (wpAny_loadName_local c1 (lookup_relabel (by decide) c5) (hn.ns hC) hm q) (nodebug c6)
  | succ k =>
    have e : (fr.map fun k => (t.l[k]?).getD none)[k]? = some (some v) := e
    rw [List.getElem?_map] at e
    cases hj : fr[k]? with
    | none => rw [hj] at e; exact noneX e
    | some j =>
      rw [hj] at e
      simp only [Option.map_some,Option.some.injEq] at e
      have e2 : t.l[j]? = some (some v) := by
        cases h : t.l[j]? with
        | none => rw [h] at e; exact noneX e
        | some z => rw [h] at e; exact congrArg some e
      refine byC fun no9 => ?_
      obtain ⟨y,V',s1,r',rd,cc⟩ := L j v e2
      obtain ⟨y',s2,y2,y3,y4⟩ := c7 j (List.mem_of_getElem? hj)
      refine no9 ?_
      clear no9
      rw [s1] at s2; cases Option.some.inj s2
      refine byC fun no9 => ?_
      obtain ⟨a,o,h1,h2,h3⟩ := cc y2
      obtain ⟨_,hkc,_⟩ := O.cel y y2
      refine no9 ?_
      clear no9
      refine ⟨y,V',?_,r',?_,fun h => by cases h⟩
      · show (x :: fr.map (fun k => (t.sc.slots[k]?).getD ""))[k + 1]? = some y
        simp only [List.getElem?_cons_succ,List.getElem?_map,hj]
        simp [s1]
      · intro A E Q s1 pos g F hY hI q
        have hl : cl.lookup y = some a := (hcl y (lookup_mem y3)).trans h1
        exact wpAny_Name (wpAny_loadName_cell c1 (lookup_relabel_free O.fn hkc y3) hl ⟨o,hI _ h2 (Tb.no fun ps h => by rw [h3] at h; cases h),h3⟩ q) (nodebug y4)
theorem inner_rep {H : MH} {wd : Wd} {h h1 : Heap} {I : Addr} {oI : Obj} {C : Addr} {oC : Obj} {Dd : Addr} {Acc : List Value} (S : RepS t.c w.params t.m t.Y H wd h) (F : Fr wd.g t.c.L h1 t.m)
    (N : News wd.g t.c.L h1 ((I,oI) :: (C,oC) :: (Dd,LCg.lst Acc) :: wd.all t.Y)) (off : Off3 I C Dd (wd.all t.Y)) : RepS t.c w.params t.m ([(I,oI),(C,oC),(Dd,LCg.lst Acc)] ++ t.Y) H wd h1 := by
  have o3 := off.mem
  refine ⟨S.below,S.dic,F,fun q hq => N q ?_,S.mr,S.nd,fun e he q hq => ?_,fun q hq x hx => ?_⟩
  · simp only [Wd.all,List.mem_append,List.mem_cons,List.not_mem_nil,or_false] at hq ⊢
    rcases hq with h | h | (h | h | h) | h <;> simp [h]
  · have he' := o3 e (by simp [he])
    simp only [List.mem_append,List.mem_cons,List.not_mem_nil,or_false] at hq
    rcases hq with h | (h | h | h) | h
    · exact S.sp e he q (by simp [h])
    · subst h; exact he'.1.symm
    · subst h; exact he'.2.1.symm
    · subst h; exact he'.2.2.symm
    · exact S.sp e he q (by simp [h])
  · have hq' := o3 q (by simp [hq])
    simp only [List.mem_append,List.mem_cons,List.not_mem_nil,or_false] at hx
    rcases hx with (h | h | h) | h
    · subst h; exact hq'.1
    · subst h; exact hq'.2.1
    · subst h; exact hq'.2.2
    · exact S.ap q hq x h
theorem inner_off {H : MH} {wd wd1 : Wd} {h : Heap} {I : Addr} {oI : Obj} {C : Addr} {oC : Obj} {Dd : Addr} {Acc : List Value} (off : Off3 I C Dd (wd.all t.Y)) (S : RepS t.c w.params t.m ([(I,oI),(C,oC),(Dd,LCg.lst Acc)] ++ t.Y) H wd1 h) : Off3 I C Dd (wd1.all t.Y) := by
  have o3 := off.mem
  refine Off3.of fun q hq => ?_
  rcases List.mem_append.mp hq with h | h
  · exact ⟨S.ap q h (I,oI) (by simp),S.ap q h (C,oC) (by simp),S.ap q h (Dd,LCg.lst Acc) (by simp)⟩
  · rcases List.mem_append.mp h with h | h
    · exact ⟨(S.sp q h (I,oI) (by simp)).symm,(S.sp q h (C,oC) (by simp)).symm,(S.sp q h (Dd,LCg.lst Acc) (by simp)).symm⟩
    · exact o3 q (by simp [h])
noncomputable def CFin (w : World) (t : Cxt) (wd0 : Wd) (Qc : List AV → MH → Prop) (Ys : List Value) (news : Led) : Prop :=
  ∃ H' wd' acc h,Qc acc H' ∧ RepS t.c w.params t.m t.Y H' wd' h ∧ wd'.rep w.params acc Ys ∧ news = wd'.all t.Y ∧ Ext wd0 wd' ∧ wd'.g = wd0.g
theorem rest_plain {fq : EF} {n : Nat} {elt : IE} {elt' : Expr} {s : Scope} {cl : List (Str × Addr)} {x : Str} {fr : List Nat} {vs : List AV} {wd0 : Wd} {s₂ : Shared} {Pit : Nat → Value → Prop} {Qc : List AV → MH → Prop} (hq : ESound prog w K p loose mean mg mb true D fq)
    (he : chkE n (inSc t.sc s x fr) elt elt' = true) (O : Cxt.Ok K p loose mean mg mb D t) (hc : compOk t.sc s x fr = true) (hcl : ∀ y,(y,NameKind.free) ∈ s.names → cl.lookup y = t.env.cells.lookup y) (hP : ∀ i V,Pit i V → ∃ u,vs[i]? = some u ∧ wd0.rep w.params [u] [V]) :
    ∀ (k i : Nat) (acc : List AV) (Acc : List Value) (H : MH) (wd : Wd) (h : Heap),i + k = vs.length → comps fq elt none (fr.map fun k => (t.l[k]?).getD none) (vs.drop i) acc H Qc → RepS t.c w.params t.m t.Y H wd h → wd.g = wd0.g → Ext wd0 wd → LocOk prog w t wd → wd.rep w.params acc Acc →
      CompRest prog w t.c.A wd0.g t.c.L t.m t.env elt' x s cl s₂ (fun nw => ∀ q ∈ wd0.I,¬ Tb q → q ∈ nw) Pit (CFin w t wd0 Qc) k i Acc (wd.all t.Y) := by
  intro k
  induction k with
  | zero =>
    intro i acc Acc H wd h hi q S hg E L r
    rw [List.drop_of_length_le (by lia)] at q
    exact CompRest.zero ⟨H,wd,acc,h,q,S,r,rfl,E,hg⟩
  | succ k ih =>
    intro i acc Acc H wd h hi q S hg E L r
    refine CompRest.succ fun V I oI C oC Dd m₂ h1 tk E' hV hN hm F N off ne => ?_
    refine byC fun no9 => ?_
    obtain ⟨u,hu,ru⟩ := hP i V hV
    refine no9 ?_
    clear no9
    have hlt : i < vs.length := (List.getElem?_eq_some_iff.mp hu).1
    simp only [List.drop_eq_getElem_cons hlt,(List.getElem?_eq_some_iff.mp hu).2] at q
    rw [← hg] at F N
    have S' := inner_rep S F N off
    have L' := inner_loc (I := I) (oI := oI) (C := C) (Dd := Dd) (Acc := Acc) O hc hcl L hN hm (ru.monoT E.sub E.pre)
    have q : fq elt (some u :: fr.map fun k => (t.l[k]?).getD none) H (fun y H1 => comps fq elt none (fr.map fun k => (t.l[k]?).getD none) (vs.drop (i + 1)) (acc ++ [y]) H1 Qc) (fun _ _ => False) := q
    refine hq n elt elt' (inner t s cl x fr I oI C oC Dd Acc u) he (inner_ok O hc) H wd { s₂ with heap := h1,toks := tk } _ _ S' L' q _ _ (fun y H1 wd1 s1 Y q1 st1 S1 r1 => ?_) (fun _ _ _ _ _ f => f.elim)
    obtain ⟨h',tk',rfl⟩ := st1.same
    have g1 : wd1.g = wd0.g := (st1.still rfl).trans hg
    have S1' : RepS t.c w.params t.m ([(I,oI),(C,oC),(Dd,LCg.lst Acc)] ++ t.Y) H1 wd1 h' := S1
    refine CompEnd.intro (all := wd1.all ([(I,oI),(C,oC),(Dd,LCg.lst Acc)] ++ t.Y)) (g1 ▸ S1'.fr) (g1 ▸ S1'.nw) (wd1.all t.Y) (fun q hq => ?_) (inner_off off S1') (fun q hq nt => ?_) ?_
    · simp only [Wd.all,List.mem_append,List.mem_cons,List.not_mem_nil,or_false] at hq ⊢
      rcases hq with h | h | h | h | h | h <;> simp [h]
    · exact List.mem_append_left _ (st1.ext.sub q (E.sub q hq nt) nt)
    · exact ih (i + 1) (acc ++ [y]) (Acc ++ [Y]) H1 wd1 h' (by lia) q1 S1'.drop g1 (E.trans st1.ext) (L.step prog w ⟨st1.same,st1.turn,st1.ext,st1.still⟩) ((r.monoT st1.ext.sub st1.ext.pre).app r1)
end
end Mine.Internal
open LCg LCt
namespace Mine.Internal
section
variable {ql : Bool} {prog : Program} {w : World} {K : Frag} {p : Program} {loose : List Str} {mean : ExcName → Option Value} {mg mb : Str → Option Value} {D : Nat}
  {t : Cxt} {H : MH} {wd : Wd} {s : Shared} {X : Nat → MH → Prop} {Q : AV → MH → Prop}
theorem rest_test {fq : EF} {n : Nat} {elt ct : IE} {elt' ct' : Expr} {s : Scope} {cl : List (Str × Addr)} {x : Str} {fr : List Nat} {vs : List AV} {wd0 : Wd} {s₂ : Shared} {Pit : Nat → Value → Prop} {Qc : List AV → MH → Prop} (hq : ESound prog w K p loose mean mg mb true D fq) (hb : BSound prog w K p loose mean mg mb true D fq)
    (he : chkE n (inSc t.sc s x fr) elt elt' = true) (ht : chkE n (inSc t.sc s x fr) ct ct' = true) (O : Cxt.Ok K p loose mean mg mb D t) (hc : compOk t.sc s x fr = true) (hcl : ∀ y,(y,NameKind.free) ∈ s.names → cl.lookup y = t.env.cells.lookup y) (hP : ∀ i V,Pit i V → ∃ u,vs[i]? = some u ∧ wd0.rep w.params [u] [V]) :
    ∀ (k i : Nat) (acc : List AV) (Acc : List Value) (H : MH) (wd : Wd) (h : Heap),i + k = vs.length → comps fq elt (some ct) (fr.map fun k => (t.l[k]?).getD none) (vs.drop i) acc H Qc → RepS t.c w.params t.m t.Y H wd h → wd.g = wd0.g → Ext wd0 wd → LocOk prog w t wd → wd.rep w.params acc Acc →
      CompRestT prog w t.c.A wd0.g t.c.L t.m t.env ct' elt' x s cl s₂ (fun nw => ∀ q ∈ wd0.I,¬ Tb q → q ∈ nw) Pit (CFin w t wd0 Qc) k i Acc (wd.all t.Y) := by
  intro k
  induction k with
  | zero =>
    intro i acc Acc H wd h hi q S hg E L r
    rw [List.drop_of_length_le (by lia)] at q
    exact CompRestT.zero ⟨H,wd,acc,h,q,S,r,rfl,E,hg⟩
  | succ k ih =>
    intro i acc Acc H wd h hi q S hg E L r
    refine CompRestT.succ fun V I oI C oC Dd m₂ h1 tk E' hV hN hm F N off ne => ?_
    refine byC fun no9 => ?_
    obtain ⟨u,hu,ru⟩ := hP i V hV
    refine no9 ?_
    clear no9
    have hlt : i < vs.length := (List.getElem?_eq_some_iff.mp hu).1
    rw [List.drop_eq_getElem_cons hlt,(List.getElem?_eq_some_iff.mp hu).2] at q
    rw [← hg] at F N
    have S' := inner_rep S F N off
    have L' := inner_loc (I := I) (oI := oI) (C := C) (Dd := Dd) (Acc := Acc) O hc hcl L hN hm (ru.monoT E.sub E.pre)
    have q : fq ct (some u :: fr.map fun k => (t.l[k]?).getD none) H (fun b H1 => isB b fun b => brB b (fq elt (some u :: fr.map fun k => (t.l[k]?).getD none) H1 (fun y H2 => comps fq elt (some ct) (fr.map fun k => (t.l[k]?).getD none) (vs.drop (i + 1)) (acc ++ [y]) H2 Qc) (fun _ _ => False)) (comps fq elt (some ct) (fr.map fun k => (t.l[k]?).getD none) (vs.drop (i + 1)) acc H1 Qc)) (fun _ _ => False) := q
    refine hb n ct ct' (inner t s cl x fr I oI C oC Dd Acc u) ht (inner_ok O hc) H wd { s₂ with heap := h1,toks := tk } (fun b H1 => brB b (fq elt (some u :: fr.map fun k => (t.l[k]?).getD none) H1 (fun y H2 => comps fq elt (some ct) (fr.map fun k => (t.l[k]?).getD none) (vs.drop (i + 1)) (acc ++ [y]) H2 Qc) (fun _ _ => False)) (comps fq elt (some ct) (fr.map fun k => (t.l[k]?).getD none) (vs.drop (i + 1)) acc H1 Qc)) _ S' L' q _ _ (fun b H1 wd1 s1 q1 st1 S1 => ?_) (fun _ _ _ _ _ f => f.elim)
    have g1 : wd1.g = wd0.g := (st1.still rfl).trans hg
    have L1 : LocOk prog w (inner t s cl x fr I oI C oC Dd Acc u) wd1 := L'.step prog w st1
    have fin : ∀ (acc2 : List AV) (Acc2 : List Value) (H2 : MH) (wd2 : Wd) (s2 : Shared) (Yv : Value),comps fq elt (some ct) (fr.map fun k => (t.l[k]?).getD none) (vs.drop (i + 1)) acc2 H2 Qc → Step true t.c wd { s₂ with heap := h1,toks := tk } wd2 s2 → RepS t.c w.params t.m ([(I,oI),(C,oC),(Dd,LCg.lst Acc)] ++ t.Y) H2 wd2 s2.heap → wd2.rep w.params acc2 Acc2 →
        CompEnd wd0.g t.c.L t.m { s₂ with heap := h1,toks := tk } I oI C oC Dd (lst Acc) (fun nw => ∀ q ∈ wd0.I,¬ Tb q → q ∈ nw) (fun _ news' => CompRestT prog w t.c.A wd0.g t.c.L t.m t.env ct' elt' x s cl s₂ (fun nw => ∀ q ∈ wd0.I,¬ Tb q → q ∈ nw) Pit (CFin w t wd0 Qc) k (i + 1) Acc2 news') Yv s2 := by
      intro acc2 Acc2 H2 wd2 s2 Yv q2 st2 S2 r2
      obtain ⟨h',tk',rfl⟩ := st2.same
      have g2 : wd2.g = wd0.g := (st2.still rfl).trans hg
      refine CompEnd.intro (all := wd2.all ([(I,oI),(C,oC),(Dd,LCg.lst Acc)] ++ t.Y)) (g2 ▸ S2.fr) (g2 ▸ S2.nw) (wd2.all t.Y) (fun q hq => ?_) (inner_off off S2) (fun q hq nt => ?_) ?_
      · simp only [Wd.all,List.mem_append,List.mem_cons,List.not_mem_nil,or_false] at hq ⊢
        rcases hq with h | h | h | h | h | h <;> simp [h]
      · exact List.mem_append_left _ (st2.ext.sub q (E.sub q hq nt) nt)
      · exact ih (i + 1) acc2 Acc2 H2 wd2 h' (by lia) q2 S2.drop g2 (E.trans st2.ext) (L.step prog w st2) r2
    cases b with
    | true =>
      simp only [if_true]
      refine hq n elt elt' (inner t s cl x fr I oI C oC Dd Acc u) he (inner_ok O hc) H1 wd1 s1 _ _ S1 L1 (q1.1 rfl) _ _ (fun y H2 wd2 s2 Y q2 st2 S2 r2 => ?_) (fun _ _ _ _ _ f => f.elim)
      exact fin (acc ++ [y]) (Acc ++ [Y]) H2 wd2 s2 Y q2 (st1.trans st2) S2 ((r.monoT (st1.ext.trans st2.ext).sub (st1.ext.trans st2.ext).pre).app r2)
    | false =>
      simp only [Bool.false_eq_true,if_false]
      exact fin acc Acc H1 wd1 s1 Value.none (q1.2 rfl) st1 S1 (r.monoT st1.ext.sub st1.ext.pre)
theorem ifs_cases {fq : EF} {n : Nat} {sc : Sc} {cond : Option IE} {ifs : List Expr} (h : chkL (chkE n sc) cond.toList ifs = true) : (cond = none ∧ ifs = []) ∨ ∃ c c',cond = some c ∧ ifs = [c'] ∧ chkE n sc c c' = true := by
  cases cond with
  | none => exact .inl ⟨rfl,chkL_nil h⟩
  | some c =>
    obtain ⟨b,rfl,ha⟩ := chkL_1 h
    exact .inr ⟨_,_,rfl,rfl,ha⟩
theorem comp_block {fq : EF} {n : Nat} {elt : IE} {elt' it' : Expr} {s1 : Shared} {cond : Option IE} {ifs : List Expr} {s : Scope} {cl : List (Str × Addr)} {x : Str} {px pos : Pos} {fr : List Nat} {vs : List AV} {wd0 : Wd} {V : Value} {v : AV} {Qc : List AV → MH → Prop} {E : Value → Shared → Prop} {RR : Value → Addr → Result → Shared → Prop}
    (hq : ESound prog w K p loose mean mg mb true D fq) (hb : BSound prog w K p loose mean mg mb true D fq) (he : chkE n (inSc t.sc s x fr) elt elt' = true) (ht : chkL (chkE n (inSc t.sc s x fr)) cond.toList ifs = true) (O : Cxt.Ok K p loose mean mg mb D t) (hc : compOk t.sc s x fr = true)
    (hcl : ∀ y,(y,NameKind.free) ∈ s.names → cl.lookup y = t.env.cells.lookup y) (hit : itemsOf v = some vs) (hz : vs.length ≤ 100000) (q : comps fq elt cond (fr.map fun k => (t.l[k]?).getD none) vs [] H Qc)
    (S : RepS t.c w.params t.m t.Y H wd0 s1.heap) (L : LocOk prog w t wd0) (r : wd0.rep w.params [v] [V])
    (hRR : ∀ D' C h tk m' ys news',Fr wd0.g t.c.L h t.m → News wd0.g t.c.L h ((D',lst ys) :: news') → Off1 D' news' → h.Ns C m' → wd0.g.get? C = none → wd0.g.get? D' = none → C ≠ t.c.L → D' ≠ t.c.L → C ≠ D' → (∀ p ∈ news',p.1 ≠ C) → CFin w t wd0 Qc ys news' → RR (.ref D') C (.ok .next) { s1 with heap := h,toks := tk }) :
    wpAny (model prog w) t.c.A (pyIter V) (fun it s₂ => wpAny (model prog w) t.c.A (newList []) (fun acc s₃ => wpAny (model prog w) t.c.A (newFunctionEnv s t.env.globals cl [] t.env.qual none .none (some t.env)) (fun cenv s₄ =>
      codeAny (model prog w) t.c.A (.compStart (.ListComp elt' [⟨.Name x px,it',ifs,0⟩] s pos) 0 it acc { cenv with scope := relabel s t.env }) (RR acc cenv.locals) s₄) E s₃) E s₂) E s1 := by
  refine byC fun no9 => ?_
  obtain ⟨c1,c2,c3,c4,c5,c6,c7⟩ := compOk_parts hc
  refine no9 ?_
  clear no9
  refine iter_src rfl hit r S.allI fun it s2 src => ?_
  obtain ⟨fp,P,St,o,W,hIo,hSt,st0,hfp,hP⟩ := src
  have up : ∀ b o',s1.heap.get? b = some o' → (s1.heap.push o).get? b = some o' := fun b o' e => Heap.get?_push_of_some _ e
  have hfp' : ∀ b ∈ fp,b < (s1.heap.push o).objs.size := fun b hb => by
    rw [Heap.size_push]
    rcases hfp b hb with rfl | ⟨o',ho⟩
    · exact Nat.lt_succ_self _
    · exact Nat.lt_succ_of_lt (Heap.lt_size (S.allI _ ho))
  have hSt' : ∀ i h h' o' nw,St i h → h.get? s1.heap.objs.size = some o' → h'.get? s1.heap.objs.size = some o' → (∀ b o,wd0.g.get? b = some o → h'.get? b = some o) → News wd0.g t.c.L h' nw → (∀ q ∈ wd0.I,¬ Tb q → q ∈ nw) → St i h' :=
    fun i h h' o' nw a b c _ N sub => hSt i h h' o' a b c fun q hq nt => (N q (sub q hq nt)).1
  have sub0 : ∀ q ∈ wd0.I,¬ Tb q → q ∈ wd0.all t.Y := fun q hq _ => List.mem_append_left _ hq
  refine byC fun no9 => ?_
  rcases ifs_cases (fq := fq) ht with ⟨rfl,rfl⟩ | ⟨c,c',rfl,rfl,hc'⟩
  · refine no9 ?_
    clear no9
    refine block_U (S := fun nw => ∀ q ∈ wd0.I,¬ Tb q → q ∈ nw) (Fin := CFin w t wd0 Qc) W (Nat.le_trans hz (by decide)) (fun i h hs => let ⟨o,ho,_⟩ := hIo i h hs; ⟨o,ho⟩) hSt' c2 c1 c5 st0 hfp' (S.fr.keeps up) (S.nw.grown up) (Nat.ne_of_lt S.fr.ns.lt) (next_is_new S.fr) S.up sub0 ?_ hRR
    exact rest_plain hq he O hc hcl hP vs.length 0 [] [] H wd0 _ (by lia) q S rfl (.refl _) L .nil
  · refine no9 ?_
    clear no9
    refine block_T (S := fun nw => ∀ q ∈ wd0.I,¬ Tb q → q ∈ nw) (Fin := CFin w t wd0 Qc) W (Nat.le_trans hz (by decide)) (fun i h hs => let ⟨o,ho,_⟩ := hIo i h hs; ⟨o,ho⟩) hSt' c2 c1 c5 st0 hfp' (S.fr.keeps up) (S.nw.grown up) (Nat.ne_of_lt S.fr.ns.lt) (next_is_new S.fr) S.up sub0 ?_ hRR
    exact rest_test hq hb he hc' O hc hcl hP vs.length 0 [] [] H wd0 _ (by omega) q S rfl (.refl _) L .nil
theorem set_of {e : Expr} {env : Env} (h : notSet e = true) : ∀ x,foldedSetIterable e env x = pure x := by
  intro x
  cases e <;> first | rfl | exact falseX h
theorem comp_end {mu : Bool} {wd0 : Wd} {s0 : Shared} {D' : Addr} {ys : List Value} {news' : Led} {h : Heap} {m : Str → Option Value} {tk : Nat} (off : Off1 D' news') (F : Fr wd0.g t.c.L h m) (N : News wd0.g t.c.L h ((D',lst ys) :: news'))
    (fin : CFin w t wd0 (fun ys H2 => match mu with | false => Q (.lst ys) H2 | true => (∀ (P : Params) (I : Led) (xs : List Addr) (Vs : List Value),Rs P I xs ys Vs → Rs P I [] ys Vs) ∧ Q (.mu H2.length) (H2 ++ [ys])) ys news') :
    ∃ v H' wd',Q v H' ∧ RepS t.c w.params m t.Y H' wd' h ∧ wd'.rep w.params [v] [.ref D'] ∧ Ext wd0 wd' ∧ wd'.g = wd0.g := by
  refine byC fun no9 => ?_
  obtain ⟨H',wd',acc,h1,q,S,r,rfl,E,hg⟩ := fin
  refine no9 ?_
  clear no9
  have o1 : ∀ q ∈ wd'.all t.Y,q.1 ≠ D' := by
    have : ∀ {l : Led},Off1 D' l → ∀ q ∈ l,q.1 ≠ D' := by
      intro l
      induction l with
      | nil => intro _ q hq; cases hq
      | cons a l ih =>
        intro x q hq
        rcases List.mem_cons.mp hq with rfl | hq
        · exact x.1
        · exact ih x.2 q hq
    exact this off
  have S0 : RepS t.c w.params m t.Y H' wd' h := ⟨S.below,S.dic,hg ▸ F,fun q hq => hg ▸ N q (.tail _ hq),S.mr,S.nd,S.sp,S.ap⟩
  cases mu with
  | false =>
    obtain ⟨S1,E1⟩ := S0.newI (hg ▸ F) (hg ▸ N) o1
    exact ⟨_,_,_,q,S1,.lst (.head _) (r.monoT E1.sub E1.pre) .nil,E.trans E1,hg⟩
  | true =>
    obtain ⟨S1,E1⟩ := S0.newM (vs := ys) (n := ys.length) (l := acc) (hg ▸ F) (hg ▸ N) o1 (q.1 _ _ _ _ r)
    refine ⟨_,_,_,q.2,S1,.mu ?_ .nil,E.trans E1,hg⟩
    show (List.map _ _)[_]? = _
    rw [List.map_append,← S.mr.length,List.getElem?_append_right (by simp)]
    simp
theorem clos_ok {s : Scope} {x : Str} {fr : List Nat} (O : Cxt.Ok K p loose mean mg mb D t) (hc : compOk t.sc s x fr = true) : ∃ cl,closureFor s t.env = pure cl ∧ ∀ y,(y,NameKind.free) ∈ s.names → cl.lookup y = t.env.cells.lookup y :=
  clos_of fun y hy e => (O.cel y.1 ((compOk_parts hc).2.2.2.1 y hy e)).2.2
theorem e_comp {fq f : EF} {n : Nat} {mu : Bool} {elt it : IE} {elt' it' : Expr} {cond : Option IE} {ifs : List Expr} {sp : Scope} {x : Str} {px pos : Pos} {fr : List Nat} (hf : ESound prog w K p loose mean mg mb ql D f)
    (hq : ESound prog w K p loose mean mg mb true D fq) (hb : BSound prog w K p loose mean mg mb true D fq) (hc : compOk t.sc sp x fr = true) (hns : notSet it' = true) (hi : chkE n t.sc it it' = true) (he : chkE n (inSc t.sc sp x fr) elt elt' = true) (ht : chkL (chkE n (inSc t.sc sp x fr)) cond.toList ifs = true) (O : Cxt.Ok K p loose mean mg mb D t)
    (S : RepS t.c w.params t.m t.Y H wd s.heap) (L : LocOk prog w t wd)
    (q : f it t.l H (fun v H1 => optP (itemsOf v) fun vs => vs.length ≤ 100000 ∧ comps fq elt cond (fr.map fun k => (t.l[k]?).getD none) vs [] H1 (fun ys H2 => match mu with
      | false => Q (.lst ys) H2
      | true => (∀ (P : Params) (I : Led) (xs : List Addr) (Vs : List Value),Rs P I xs ys Vs → Rs P I [] ys Vs) ∧ Q (.mu H2.length) (H2 ++ [ys]))) X) :
    Tri prog w ql t wd s (eval (.ListComp elt' [⟨.Name x px,it',ifs,0⟩] sp pos) t.env) Q X := by
  intro Qr Er hK hX
  refine byC fun no9 => ?_
  obtain ⟨cl,hclos,hcl⟩ := clos_ok O hc
  obtain ⟨c1,c2,c3,c4,c5,c6,c7⟩ := compOk_parts hc
  refine no9 ?_
  clear no9
  simp only [eval_ListComp]
  refine wpAny_comprehension_free (use := none) rfl (set_of hns) hclos c1 c3 ?_
  refine hf n it it' t hi O H wd s _ X S L q _ _ (fun v H1 wd1 s1 V q1 st1 S1 r1 => ?_) hX
  refine byC fun no9 => ?_
  obtain ⟨vs,hvs,hz,q2⟩ := optP_some q1
  refine no9 ?_
  clear no9
  refine comp_block (n := n) hq hb he ht O hc hcl hvs hz q2 S1 (L.step prog w st1) r1 ?_
  intro D' C h tk m' ys news' F' N' o1 hn hC₀ hD₀ hCL hDL hCD offC fin
  refine ⟨m',hn,fun h'' hs'' => ?_⟩
  have F2 := F'.change hs'' hCL hC₀
  have N2 : News wd1.g t.c.L h'' ((D',lst ys) :: news') := fun p hp => by
    refine ⟨hs''.extBut _ _ ?_ (N' p hp).1,(N' p hp).2⟩
    rcases List.mem_cons.mp hp with rfl | hp
    · exact Ne.symm hCD
    · exact offC p hp
  refine byC fun no9 => ?_
  obtain ⟨v',H',wd',qv,S',r',E',hg⟩ := comp_end (s0 := s1) (tk := tk) o1 F2 N2 fin
  refine no9 ?_
  clear no9
  exact hK v' H' wd' _ _ qv (st1.trans ⟨.mk,hg ▸ .refl,E',fun _ => hg⟩) S' r'
end
section
variable {ql : Bool} {prog : Program} {w : World} {K : Frag} {p : Program} {loose : List Str} {mean : ExcName → Option Value} {mg mb : Str → Option Value} {D : Nat}
  {t : Cxt} {H : MH} {wd : Wd} {s : Shared} {X : Nat → MH → Prop} {Q : AV → MH → Prop}
theorem e_callv {T : Nat → Option Con} {k : Nat} {x : Str} {xp ps : Pos} (hT : TOk prog w K p loose mean mg mb ql D T) (hx : t.sc.slots[k]? = some x) (O : Cxt.Ok K p loose mean mg mb D t)
    (S : RepS t.c w.params t.m t.Y H wd s.heap) (L : LocOk prog w t wd) (q : match t.l[k]? with | some (some (.fn j caps)) => (match T (1000 + j) with | some C => C caps H Q X | none => False) | _ => False) :
    Tri prog w ql t wd s (eval (.Call (.Name x xp) [] [] ps) t.env) Q X := by
  intro Qr Er hK hX
  rcases hl : t.l[k]? with _ | _ | v
  · rw [hl] at q; exact q.elim
  · rw [hl] at q; exact q.elim
  · rw [hl] at q
    cases v <;> first | exact q.elim | skip
    rename_i j caps
    have q : (match T (1000 + j) with | some C => C caps H Q X | none => False) := q
    rcases hC : T (1000 + j) with _ | C
    · rw [hC] at q; exact q.elim
    · rw [hC] at q
      refine byC fun no9 => ?_
      obtain ⟨y,V,e1,r,rd,_⟩ := L k _ hl
      obtain ⟨a,us,rfl,fa,_⟩ := RepV.f r
      obtain ⟨name,qual,params,body,scope,clos,pm,c',ctv,names,ie,h1,_⟩ := fa
      refine no9 ?_
      clear no9
      cases hx.symm.trans e1
      refine Call_ ?_
      refine rd S.fr (fun q hq => (S.nw q (by simp [hq])).1) (fun q hq _ => (S.nw q (by simp [hq])).1) ?_
      refine callWith_F0 ⟨_,_,_,_,S.allI _ h1⟩ ?_
      exact hT.2 j C hC t.c caps H Q X t.m t.Y wd s a Qr Er O.c q S r O.room O.units hK hX
theorem codeAmong_more {pos : Pos} {a b : Int} {ta tb : Tok} {c v : Value} {l : List Value} (ok : Tr3 l) (h : codeAmong pos (l ++ [.int a ta,.int b tb,c]) = some v) : codeAmong pos l = some v ∨ v = c := by
  induction ok with
  | nil =>
    have h : (if (a == (pos.line : Int) && b == (pos.col : Int)) = true then some c else codeAmong pos []) = some v := h
    split at h
    · exact .inr (Option.some.inj h).symm
    · exact noneX h
  | @cons i j t u z r _ ih =>
    have h : (if (i == (pos.line : Int) && j == (pos.col : Int)) = true then some z else codeAmong pos (r ++ [.int a ta,.int b tb,c])) = some v := h
    have e : codeAmong pos (.int i t :: .int j u :: z :: r) = (if (i == (pos.line : Int) && j == (pos.col : Int)) = true then some z else codeAmong pos r) := rfl
    rw [e]
    split at h
    · rename_i hc; rw [if_pos hc]; exact .inl h
    · rename_i hc; rw [if_neg hc]; exact ih h
theorem triples_more {a b : Int} {ta tb : Tok} {c : Value} {l : List Value} (ok : Tr3 l) : Tr3 (l ++ [.int a ta,.int b tb,c]) := by
  induction ok with
  | nil => exact .cons .nil
  | cons _ ih => exact .cons ih
theorem noParams_is {params : Arguments} (h : noParams params = true) : params = ⟨[],[],none,[],[],none,[]⟩ := by
  obtain ⟨a,b,c,d,e,f,g⟩ := params
  have h1 := and4 h
  have h2 := and4 h1.1
  simp only [nil_of h2.1,nil_of h2.2.1,none_of h2.2.2.1,nil_of h2.2.2.2,nil_of h1.2.1,none_of h1.2.2.1,nil_of h1.2.2.2]
theorem lamC_parts {f : Sc → IE → Expr → Bool} {j : Nat} {params : Arguments} {body : Expr} {sp : Scope} (h : lamC f j params body sp = true) : params = ⟨[],[],none,[],[],none,[]⟩ ∧ sp.kind = .function ∧ sp.isCoroutine = false ∧ sp.isGenerator = false ∧ (∀ y ∈ sp.names,y.2 ≠ .cell) ∧
    ∃ names ie,lams[j]? = some (names,ie) ∧ (∀ y ∈ names,sp.names.lookup y = some .free ∧ notDebug y = true) ∧ f ⟨names,sp.names,[],true,none⟩ ie body = true := by
  unfold lamC at h
  simp only [Bool.and_eq_true,List.all_eq_true,beq_iff_eq,bne_iff_ne,ne_eq,Bool.not_eq_true'] at h
  refine byC fun no9 => ?_
  obtain ⟨⟨⟨⟨h1,h2⟩,h3,h4⟩,h5⟩,h6⟩ := h
  refine no9 ?_
  clear no9
  refine ⟨noParams_is h1,h2,h3,h4,h5,?_⟩
  split at h6
  · rename_i names ie hj
    simp only [Bool.and_eq_true,List.all_eq_true,beq_iff_eq] at h6
    exact ⟨names,ie,hj,h6.1,h6.2⟩
  · exact falseX h6
theorem lamFr_parts {sc : Sc} {j : Nat} {sp : Scope} {fr : List Nat} (h : lamFr sc j sp fr = true) : (∀ y ∈ sp.names,y.2 = .free → y.1 ∈ sc.cells) ∧ ∃ names ie,lams[j]? = some (names,ie) ∧ fr.map (fun k => sc.slots[k]?) = names.map some ∧ ∀ y ∈ names,y ∈ sc.cells := by
  unfold lamFr at h
  simp only [Bool.and_eq_true,List.all_eq_true,bne_iff_ne,Bool.or_eq_true,ne_eq] at h
  refine ⟨fun y hy e => ?_,?_⟩
  · rcases h.1 y hy with h | h
    · exact absurd e h
    · simpa using h
  · have h6 := h.2
    split at h6
    · rename_i names ie hj
      simp only [Bool.and_eq_true,List.all_eq_true,beq_iff_eq] at h6
      exact ⟨names,ie,hj,h6.1,fun y hy => by simpa using h6.2 y hy⟩
    · exact falseX h6
theorem caps_ok (L : LocOk prog w t wd) : ∀ {fr : List Nat} {names : List Str} {vs : List AV},alls (fr.map fun k => (t.l[k]?).getD none) = some vs → fr.map (fun k => t.sc.slots[k]?) = names.map some → (∀ y ∈ names,y ∈ t.sc.cells) →
    ∃ us,wd.rep w.params vs us ∧ us.length = names.length ∧ ∀ (k : Nat) (y : Str) (u : Value),names[k]? = some y → us[k]? = some u → ∃ ca o,t.env.cells.lookup y = some ca ∧ (ca,o) ∈ wd.I ∧ o.data = .cell (some u)
  | [],[],vs,h,_,_ => by cases Option.some.inj h; exact ⟨[],.nil,rfl,fun k y u h _ => by simp at h⟩
  | [],_ :: _,_,_,h,_ => by cases h
  | _ :: _,[],_,_,h,_ => by cases h
  | k :: fr,y :: names,vs,h,hn,hc => by
    simp only [List.map_cons,List.map_cons] at hn
    obtain ⟨hk,hn⟩ := List.cons.inj hn
    rw [List.map_cons] at h
    cases hv : (t.l[k]?).getD none with
    | none => rw [hv] at h; exact noneX h
    | some v =>
      rw [hv] at h
      have h : (match alls (fr.map fun k => (t.l[k]?).getD none) with | some l => some (v :: l) | none => none) = some vs := h
      split at h
      · rename_i l hl
        cases h
        refine byC fun no9 => ?_
        obtain ⟨us,r,hlen,hus⟩ := caps_ok L hl hn (fun z hz => hc z (.tail _ hz))
        have e2 : t.l[k]? = some (some v) := by
          cases h : t.l[k]? with
          | none => rw [h] at hv; exact noneX hv
          | some z => rw [h] at hv; exact congrArg some hv
        obtain ⟨x,V,e1,rV,_,cc⟩ := L k v e2
        refine no9 ?_
        clear no9
        cases hk.symm.trans e1
        refine byC fun no9 => ?_
        obtain ⟨a,o,c1,c2,c3⟩ := cc (hc y (.head _))
        refine no9 ?_
        clear no9
        refine ⟨V :: us,rV.cons r,by rw [List.length_cons,List.length_cons,hlen],fun i z u e1 e2 => ?_⟩
        cases i with
        | zero => cases Option.some.inj e1; cases Option.some.inj e2; exact ⟨a,o,c1,c2,c3⟩
        | succ i => exact hus i z u (by simpa using e1) (by simpa using e2)
      · exact noneX h
theorem e_lam {n j cd P : Nat} {fr : List Nat} {params : Arguments} {body : Expr} {sp : Scope} {ps : Pos} (O : Cxt.Ok K p loose mean mg mb D t) (hs : t.sc.tab = some (cd,P)) (hfr : lamFr t.sc j sp fr = true) (hl : lamC (chkE n) j params body sp = true)
    (S : RepS t.c w.params t.m t.Y H wd s.heap) (L : LocOk prog w t wd) (q : optP (alls (fr.map fun k => (t.l[k]?).getD none)) fun vs => Q (.fn j vs) H) : Tri prog w ql t wd s (eval (.Lambda params body sp ps) t.env) Q X := by
  intro Qr Er hK hX
  refine byC fun no9 => ?_
  obtain ⟨vs,hvs,q⟩ := optP_some q
  obtain ⟨henv,hccd,hch,hP,hq⟩ := O.tb cd P hs
  obtain ⟨hfree,names,ie,hj,hnm,hcel⟩ := lamFr_parts hfr
  obtain ⟨rfl,_,_,_,_,_⟩ := lamC_parts hl
  obtain ⟨us,ru,hul,hus⟩ := caps_ok L hvs hnm hcel
  obtain ⟨clos,hclos,hcl⟩ := clos_of (env := t.env) (scope := sp) fun y hy e => (O.cel y.1 (hfree y hy e)).2.2
  obtain ⟨_,_,_,_,_,names',ie',hj',hn',_⟩ := lamC_parts hl
  refine no9 ?_
  clear no9
  rw [hj] at hj'; cases hj'
  obtain ⟨tb,hm,htr,hcd⟩ := S.mr.tabs P hP
  have fn_at : ∀ {I : Led} {name qual : Str} {pm ctv : Value} {f c' : Addr},(∀ q ∈ wd.I,¬ Tb q → q ∈ I) → (f,kla_obj name qual ⟨[],[],none,[],[],none,[]⟩ body sp clos pm c' ctv) ∈ I → CodeAt I c' qual → Mine.Internal.FnAt I j f us := by
    intro I name qual pm ctv f c' hI h1 h2
    refine ⟨name,qual,_,body,sp,clos,pm,c',ctv,names,ie,h1,h2,⟨n,hl⟩,hj,hul,fun k y u e1 e2 => ?_⟩
    refine byC fun no9 => ?_
    obtain ⟨ca,o,a1,a2,a3⟩ := hus k y u e1 e2
    refine no9 ?_
    clear no9
    exact ⟨ca,o,(hcl y (lookup_mem (hn' y (List.mem_of_getElem? e1)).1)).trans a1,hI _ a2 (Tb.no fun ps h => by rw [a3] at h; cases h),a3⟩
  refine kla_eval rfl ?_
  rw [henv] at hclos ⊢
  cases hca : codeAmong ps tb.toList with
  | some v =>
    refine byC fun no9 => ?_
    obtain ⟨c',rfl,hc'⟩ := hcd _ _ hca
    refine no9 ?_
    clear no9
    refine kla_hit (news := wd.all t.Y) S.fr S.nw (O.top S) (codeHd_of_K (O.kin S) hch) hccd (List.mem_append_left _ hm) htr.ok hca hclos fun f ctv h' tk F' N' hlt => ?_
    obtain ⟨wd',S',st',m',hMo⟩ := S.addI (tk := tk) F' N' (fun z hz => Nat.ne_of_lt (hlt z hz))
    refine hK _ _ _ _ _ q st' S' (.fn (fn_at st'.ext.sub m' ?_) (ru.step st') .nil)
    have e : (FrameCx.env t.c).qual ++ Str.ofString "<lambda>" = tabQ P := hq
    simp only [e]
    exact hc'.mono st'.ext.sub
  | none =>
    have hPo : ∀ q ∈ wd.all t.Y,q.1 = P → q = (P,tabObj tb) := fun q hq e => by
      have h1 := (S.nw q hq).1
      have h2 := S.allI _ hm
      rw [e,h2] at h1
      exact Prod.ext e (Option.some.inj h1).symm
    refine kla_nest (news := (P,tabObj tb) :: (wd.all t.Y).filter (·.1 ≠ P)) S.fr (fun q hq => ?_) (O.top S) (codeHd_of_K (O.kin S) hch) hccd (.head fun q hq => by simpa using (List.mem_filter.mp hq).2) htr.ok hca hclos fun f c' oc ov u ctv h' tk F' N' h1 h2 hlt hlf => ?_
    · rcases List.mem_cons.mp hq with rfl | hq
      · exact S.nw _ (List.mem_append_left _ hm)
      · exact S.nw q (List.mem_filter.mp hq).1
    have hPc : P < c' := hlt (P,tabObj tb) (.head _)
    have lt_c : ∀ q ∈ wd.all t.Y,q.1 < c' := fun q hq => by
      by_cases e : q.1 = P
      · rw [e]; exact hPc
      · exact hlt q (.tail _ (List.mem_filter.mpr ⟨hq,by simpa using e⟩))
    have hc0 : c' ≠ 640 ∧ c' ≠ 645 := by
      have h640 : ∀ P',P' = 640 ∨ P' = 645 → P' ≠ c' := fun P' hP' => by
        obtain ⟨ps',hm',_⟩ := S.mr.tabs P' hP'
        exact Nat.ne_of_lt (lt_c _ (List.mem_append_left _ hm'))
      exact ⟨(h640 640 (.inl rfl)).symm,(h640 645 (.inr rfl)).symm⟩
    let I' : Led := (f,kla_obj (Str.ofString "<lambda>") ((FrameCx.env t.c).qual ++ Str.ofString "<lambda>") ⟨[],[],none,[],[],none,[]⟩ body sp clos ((mg (Str.ofString "__name__")).getD Value.none) c' ctv) :: (c',oc) :: (P,tabObj (tb ++ #[rawInt ↑ps.line,rawInt ↑ps.col,Value.ref c'])) :: wd.I.filter (·.1 ≠ P)
    have hI : ∀ q ∈ wd.I,¬ Tb q → q ∈ I' := fun q hq nt => by
      refine .tail _ (.tail _ (.tail _ (List.mem_filter.mpr ⟨hq,?_⟩)))
      have : q.1 ≠ P := fun e => nt (by rw [hPo q (List.mem_append_left _ hq) e]; exact ⟨rfl,⟨_,rfl⟩,hP⟩)
      simpa using this
    have hca' : CodeAt I' c' (tabQ P) := by
      have e : (FrameCx.env t.c).qual ++ Str.ofString "<lambda>" = tabQ P := hq
      exact ⟨hc0,oc,ov,u,.tail _ (.head _),h1,by rw [h2,e]⟩
    have hT : TabsOk I' := by
      intro P' hP'
      by_cases e : P' = P
      · subst e
        refine ⟨_,.tail _ (.tail _ (.head _)),?_,fun pos v hv => ?_⟩
        · rw [Array.toList_append]; exact triples_more htr
        · rw [Array.toList_append] at hv
          rcases codeAmong_more htr hv with hv | rfl
          · obtain ⟨c,e1,e2⟩ := hcd pos v hv
            exact ⟨c,e1,e2.mono hI⟩
          · exact ⟨c',rfl,hca'⟩
      · obtain ⟨ps',g1,g2,g3⟩ := S.mr.tabs P' hP'
        refine ⟨ps',.tail _ (.tail _ (.tail _ (List.mem_filter.mpr ⟨g1,by simpa using e⟩))),g2,fun pos v hv => ?_⟩
        obtain ⟨c,e1,e2⟩ := g3 pos v hv
        exact ⟨c,e1,e2.mono hI⟩
    have offM : ∀ q ∈ wd.Mo,q.1 ≠ P := fun q hq => (S.sp q hq (P,tabObj tb) (List.mem_append_left _ hm)).symm
    have offY : ∀ q ∈ t.Y,q.1 ≠ P := fun q hq => (S.ap (P,tabObj tb) hm q hq).symm
    have S' : RepS t.c w.params t.m t.Y H { wd with I := I' } h' := by
      refine ⟨S.below,S.dic,F',fun q hq => N' q ?_,S.mr.re hI hT,S.nd,fun e he q hq => ?_,fun q hq x hx => ?_⟩
      · have hq : q ∈ I' ++ (wd.Mo ++ t.Y) := hq
        rcases List.mem_append.mp hq with h | h
        · rcases List.mem_cons.mp h with rfl | h
          · exact .head _
          · rcases List.mem_cons.mp h with rfl | h
            · exact .tail _ (.head _)
            · rcases List.mem_cons.mp h with rfl | h
              · exact .tail _ (.tail _ (.head _))
              · obtain ⟨a1,a2⟩ := List.mem_filter.mp h
                exact .tail _ (.tail _ (.tail _ (List.mem_filter.mpr ⟨List.mem_append_left _ a1,a2⟩)))
        · refine .tail _ (.tail _ (.tail _ (List.mem_filter.mpr ⟨List.mem_append_right _ h,?_⟩)))
          rcases List.mem_append.mp h with h | h
          · simpa using offM q h
          · simpa using offY q h
      · have he' := lt_c e (List.mem_append_right _ (List.mem_append_left _ he))
        rcases List.mem_append.mp hq with h | h
        · rcases List.mem_cons.mp h with rfl | h
          · exact Nat.ne_of_gt (Nat.lt_trans he' hlf)
          · rcases List.mem_cons.mp h with rfl | h
            · exact Nat.ne_of_gt he'
            · rcases List.mem_cons.mp h with rfl | h
              · exact (offM e he).symm
              · exact S.sp e he q (List.mem_append_left _ (List.mem_filter.mp h).1)
        · exact S.sp e he q (List.mem_append_right _ h)
      · have hx' := lt_c x (List.mem_append_right _ (List.mem_append_right _ hx))
        rcases List.mem_cons.mp hq with rfl | h
        · exact Nat.ne_of_gt (Nat.lt_trans hx' hlf)
        · rcases List.mem_cons.mp h with rfl | h
          · exact Nat.ne_of_gt hx'
          · rcases List.mem_cons.mp h with rfl | h
            · exact (offY x hx).symm
            · exact S.ap q (List.mem_filter.mp h).1 x hx
    have st' : Step ql t.c wd s { wd with I := I' } { s with heap := h',toks := tk } := ⟨.mk,.refl,⟨hI,fun _ _ h => h⟩,fun _ => rfl⟩
    refine hK _ _ _ _ _ q st' S' (.fn (fn_at hI (.head _) ?_) (ru.step st') .nil)
    have e : (FrameCx.env t.c).qual ++ Str.ofString "<lambda>" = tabQ P := hq
    simp only [e]
    exact hca'
end
section
variable {f : Sc → IE → Expr → Bool} {sc : Sc} {e : Expr}
theorem inv_callv {k : Nat} (h : stepC f sc (.callv k) e = true) {CC : Expr → Prop} (kk : ∀ x xp ps,sc.slots[k]? = some x → CC (.Call (.Name x xp) [] [] ps)) : CC e := by
  have h : callN e (fun x es' => es'.isEmpty && sc.slots[k]? == some x && notDebug x) = true := h
  obtain ⟨x,xp,es',p,e1,h⟩ := callN_eq h
  have h := and3 h
  exact cps (by rw [e1,nil_of h.1]) (kk x xp p (beq_iff_eq.mp h.2.1))
theorem inv_lam {j : Nat} {fr : List Nat} (h : stepC f sc (.lam j fr) e = true) {CC : Expr → Prop} (kk : ∀ params body sp ps cd P,sc.tab = some (cd,P) → lamFr sc j sp fr = true → lamC f j params body sp = true → CC (.Lambda params body sp ps)) : CC e :=
  by obtain ⟨z,h1,h⟩ := optB_some h; exact let ⟨ps,e1⟩ := lamE_eq h1; let h := and3 h; let ⟨y,hy⟩ := Option.isSome_iff_exists.mp h.1
  cps e1 (kk z.1 z.2.1 z.2.2 ps y.1 y.2 hy h.2.1 h.2.2)
theorem inv_comp {mu : Bool} {elt it : IE} {x : Str} {fr : List Nat} {cond : Option IE} (h : stepC f sc (.comp mu elt x fr it cond) e = true) : ∃ elt' px it' ifs sp ps,e = .ListComp elt' [⟨.Name x px,it',ifs,0⟩] sp ps ∧ compOk sc sp x fr = true ∧ notSet it' = true ∧ f sc it it' = true ∧ f (inSc sc sp x fr) elt elt' = true ∧ chkL (f (inSc sc sp x fr)) cond.toList ifs = true := by
  refine byC fun no9 => ?_
  obtain ⟨z,h1,h⟩ := optB_some h
  obtain ⟨ps,e1⟩ := lcE_eq h1
  obtain ⟨⟨tg,it',ifs,a⟩,h3,h⟩ := optB_some h
  obtain ⟨y,h2,h⟩ := optB_some h
  refine no9 ?_
  clear no9
  have h := and4 h
  have g := and2 h.1
  have g2 := and3 g.2
  have e2 : tg = _ := nameE_eq h2
  exact ⟨z.1,y.2,it',ifs,z.2.2,ps,by rw [e1,one1_eq h3,e2,beq_iff_eq.mp g2.1,show a = 0 from beq_iff_eq.mp g2.2.1],g.1,g2.2.2,h.2.1,h.2.2.1,h.2.2.2⟩
end
section
variable {ql : Bool} {prog : Program} {w : World} {K : Frag} {p : Program} {loose : List Str} {mean : ExcName → Option Value} {mg mb : Str → Option Value} {D : Nat}
theorem loc_q {T : Nat → Option Con} {fq f : EF} {k : Nat} {l : Loc} {H : MH} {Q : AV → MH → Prop} {X : Nat → MH → Prop} (q : stepE T fq f (.loc k) l H Q X) : ∃ v,l[k]? = some (some v) ∧ Q v H := by
  have q : match l[k]? with | some (some v) => Q v H | _ => False := q
  rcases hl : l[k]? with _ | _ | v
  · rw [hl] at q; exact q.elim
  · rw [hl] at q; exact q.elim
  · rw [hl] at q; exact ⟨v,rfl,q⟩
theorem g_q {T : Nat → Option Con} {fq f : EF} {k : Nat} {l : Loc} {H : MH} {Q : AV → MH → Prop} {X : Nat → MH → Prop} (q : stepE T fq f (.g k) l H Q X) : ∃ x v,gtab[k]? = some (x,v) ∧ Q v H := by
  have q : match gtab[k]? with | some (_,v) => Q v H | none => False := q
  rcases hl : gtab[k]? with _ | ⟨x,v⟩
  · rw [hl] at q; exact q.elim
  · rw [hl] at q; exact ⟨x,v,rfl,q⟩
theorem e_step {T : Nat → Option Con} {fq f : EF} (KO : KOk K) (hq : ESound prog w K p loose mean mg mb true D fq) (hqb : BSound prog w K p loose mean mg mb true D fq) (hf : ESound prog w K p loose mean mg mb ql D f) (hb : BSound prog w K p loose mean mg mb ql D f) (hT : TOk prog w K p loose mean mg mb ql D T) : ESound prog w K p loose mean mg mb ql D (stepE T fq f) := by
  intro n ie e t h O H wd s Q X S L q
  refine byC fun no9 => ?_
  obtain ⟨n,rfl,hk⟩ := chk_pos h; replace h := hk; clear hk
  refine no9 ?_
  clear no9
  cases ie
  case c v =>
    rcases inv_c h with ⟨k,m,ps,rfl,hc⟩ | ⟨i,k,m,ps,qs,rfl,rfl,hi⟩
    · exact e_const hc S q
    · exact e_neg hi S q
  case loc k' =>
    refine inv_loc (CC := fun e => Tri prog w ql t wd s (eval e t.env) Q X) h fun x ps hx hd => ?_
    obtain ⟨v,hv,q⟩ := loc_q q
    exact e_loc L hv hx S q
  case g i =>
    refine inv_g (CC := fun e => Tri prog w ql t wd s (eval e t.env) Q X) h fun x ps v hg hx => ?_
    obtain ⟨x',v',hv,q⟩ := g_q q
    cases hg.symm.trans hv
    exact e_g KO O S hg hx q
  case bin op l r =>
    refine inv_bin (CC := fun e => Tri prog w ql t wd s (eval e t.env) Q X) h fun l' r' ps hl hr => ?_
    exact e_bin hf hl hr O S L q (fun x y H2 wd2 s2 V W q2 S2 r1 r2 => bin_sound q2 S2 r1 r2)
  case cmp l op r =>
    refine inv_cmp (CC := fun e => Tri prog w ql t wd s (eval e t.env) Q X) h fun l' r' ps hl hr hm => ?_
    exact e_cmp hf hl hr hm O S L q
  case chain l o1 m o2 r =>
    refine inv_chain (CC := fun e => Tri prog w ql t wd s (eval e t.env) Q X) h fun l' m' r' ps hl hm hr hk => ?_
    exact e_chain hf hl hm hr hk O S L q
  case not x =>
    refine inv_not (CC := fun e => Tri prog w ql t wd s (eval e t.env) Q X) h fun x' ps hx => ?_
    exact e_not hf hx O S L q
  case and es =>
    refine inv_and (CC := fun e => Tri prog w ql t wd s (eval e t.env) Q X) h fun es' ps hx => ?_
    exact e_and hf O hx S L q
  case or es =>
    refine inv_or (CC := fun e => Tri prog w ql t wd s (eval e t.env) Q X) h fun es' ps hx => ?_
    exact e_or hf O hx S L q
  case ife c a b =>
    refine inv_ife (CC := fun e => Tri prog w ql t wd s (eval e t.env) Q X) h fun c' a' b' ps h1 h2 h3 => ?_
    exact e_ife hf hb h1 h2 h3 O S L q
  case call g es =>
    refine inv_call (CC := fun e => Tri prog w ql t wd s (eval e t.env) Q X) h fun x xp es' ps h1 h2 h3 => ?_
    exact e_call KO hf hT h1 h2 h3 O S L q
  case bcall b es =>
    refine inv_bcall (CC := fun e => Tri prog w ql t wd s (eval e t.env) Q X) h fun x xp es' ps h1 h2 h3 => ?_
    exact e_bcall KO hf h1 h2 h3 O S L q
  case meth g o es =>
    refine inv_meth (CC := fun e => Tri prog w ql t wd s (eval e t.env) Q X) h fun o' x apos es' ps h1 h2 h3 h4 h5 h6 => ?_
    exact e_meth KO hf hT h1 h4 h5 h6 h2 h3 O S L q
  case smeth g o es =>
    refine inv_smeth (CC := fun e => Tri prog w ql t wd s (eval e t.env) Q X) h fun o' x apos es' ps h1 h2 h3 h4 h5 h6 => ?_
    exact e_smeth hf h1 h4 h5 h6 h2 h3 O S L q
  case attr o C k =>
    refine inv_attr (CC := fun e => Tri prog w ql t wd s (eval e t.env) Q X) h fun o' x ps h1 h2 h3 => ?_
    exact e_attr KO hf h3 h2 h1 O S L q
  case idx o i =>
    refine inv_idx (CC := fun e => Tri prog w ql t wd s (eval e t.env) Q X) h fun o' i' ps h1 h2 h3 => ?_
    exact e_idx hf h1 h2 h3 O S L q
  case slice o lo hi =>
    refine inv_slice (CC := fun e => Tri prog w ql t wd s (eval e t.env) Q X) h fun o' lo' hi' p2 ps h1 h2 h3 => ?_
    exact e_slice hf h1 h2 h3 O S L q
  case tup es =>
    refine inv_tup (CC := fun e => Tri prog w ql t wd s (eval e t.env) Q X) h fun es' k ps h1 => ?_
    exact e_tup hf h1 O S L q
  case lst mu es =>
    refine inv_lst (CC := fun e => Tri prog w ql t wd s (eval e t.env) Q X) h fun es' ps h1 => ?_
    exact e_lst hf h1 O S L q
  case comp mu elt x fr it cond =>
    refine byC fun no9 => ?_
    obtain ⟨elt',px,it',ifs,sp,ps,rfl,h1,h2,h3,h4,h5⟩ := inv_comp h
    refine no9 ?_
    clear no9
    exact e_comp hf hq hqb h1 h2 h3 h4 h5 O S L q
  case callv k =>
    refine inv_callv (CC := fun e => Tri prog w ql t wd s (eval e t.env) Q X) h fun x xp ps h1 => ?_
    exact e_callv hT h1 O S L q
  case lam j fr =>
    refine inv_lam (CC := fun e => Tri prog w ql t wd s (eval e t.env) Q X) h fun params body sp ps cd P h1 h2 h3 => ?_
    exact e_lam O h1 h2 h3 S L q
  all_goals exact q.elim
noncomputable def testy (e : Expr) : Bool := e.ctorIdx == 15 || (e.ctorIdx == 0 || (e.ctorIdx == 3 || (e.ctorIdx == 5 || e.ctorIdx == 1)))
theorem isTrue_value {e : Expr} {env : Env} {tree : Sem Value} (h : testy e = false) : PySem.isTrue e env tree = (do let v ← tree; standAt e.pos; holding [v] (truthy v)) := by
  cases e <;> first | rfl | exact falseX h.symm
inductive TestIs (f : Sc → IE → Expr → Bool) (sc : Sc) : IE → Expr → Prop
  | and {es es' p} : chkL (f sc) es es' = true → TestIs f sc (.and es) (.BoolOp .And es' p)
  | or {es es' p} : chkL (f sc) es es' = true → TestIs f sc (.or es) (.BoolOp .Or es' p)
  | not {x x' p} : f sc x x' = true → TestIs f sc (.not x) (.UnaryOp .Not x' p)
  | neg {i e} : TestIs f sc (.c (.int i)) e
  | ife {c a b c' a' b' p} : f sc c c' = true → f sc a a' = true → f sc b b' = true → TestIs f sc (.ife c a b) (.IfExp c' a' b' p)
  | cmp {l op r l' r' p} : f sc l l' = true → f sc r r' = true → behindInMarks op r' = false → TestIs f sc (.cmp l op r) (.Compare l' [op] [r'] p)
  | chain {l o1 m o2 r l' m' r' p} : f sc l l' = true → f sc m m' = true → f sc r r' = true → lastMarks [o1,o2] [m',r'] = false → TestIs f sc (.chain l o1 m o2 r) (.Compare l' [o1,o2] [m',r'] p)
theorem testy_inv {f : Sc → IE → Expr → Bool} {sc : Sc} {ie : IE} {e : Expr} (h : stepC f sc ie e = true) (ht : ¬ testy e = false) : TestIs f sc ie e := by
  revert ht
  cases ie
  case c v =>
    refine byC fun no9 => ?_
    rcases inv_c h with ⟨k,m,ps,rfl,hc⟩ | ⟨i,k,m,ps,qs,rfl,rfl,hi⟩
    · refine no9 ?_
      clear no9
      exact fun ht => absurd rfl ht
    · refine no9 ?_
      clear no9
      exact fun _ => .neg
  case loc _ => exact inv_loc (CC := fun e => ¬ testy e = false → TestIs f sc _ e) h fun _ _ _ _ ht => absurd rfl ht
  case g _ => exact inv_g (CC := fun e => ¬ testy e = false → TestIs f sc _ e) h fun _ _ _ _ _ ht => absurd rfl ht
  case bin _ _ _ => exact inv_bin (CC := fun e => ¬ testy e = false → TestIs f sc _ e) h fun _ _ _ _ _ ht => absurd rfl ht
  case call _ _ => exact inv_call (CC := fun e => ¬ testy e = false → TestIs f sc _ e) h fun _ _ _ _ _ _ _ ht => absurd rfl ht
  case bcall _ _ => exact inv_bcall (CC := fun e => ¬ testy e = false → TestIs f sc _ e) h fun _ _ _ _ _ _ _ ht => absurd rfl ht
  case meth _ _ _ => exact inv_meth (CC := fun e => ¬ testy e = false → TestIs f sc _ e) h fun _ _ _ _ _ _ _ _ _ _ _ ht => absurd rfl ht
  case smeth _ _ _ => exact inv_smeth (CC := fun e => ¬ testy e = false → TestIs f sc _ e) h fun _ _ _ _ _ _ _ _ _ _ _ ht => absurd rfl ht
  case attr _ _ _ => exact inv_attr (CC := fun e => ¬ testy e = false → TestIs f sc _ e) h fun _ _ _ _ _ _ ht => absurd rfl ht
  case idx _ _ => exact inv_idx (CC := fun e => ¬ testy e = false → TestIs f sc _ e) h fun _ _ _ _ _ _ ht => absurd rfl ht
  case slice _ _ _ => exact inv_slice (CC := fun e => ¬ testy e = false → TestIs f sc _ e) h fun _ _ _ _ _ _ _ _ ht => absurd rfl ht
  case tup _ => exact inv_tup (CC := fun e => ¬ testy e = false → TestIs f sc _ e) h fun _ _ _ _ ht => absurd rfl ht
  case lst _ _ => exact inv_lst (CC := fun e => ¬ testy e = false → TestIs f sc _ e) h fun _ _ _ ht => absurd rfl ht
  case callv _ => exact inv_callv (CC := fun e => ¬ testy e = false → TestIs f sc _ e) h fun _ _ _ _ ht => absurd rfl ht
  case lam _ _ => exact inv_lam (CC := fun e => ¬ testy e = false → TestIs f sc _ e) h fun _ _ _ _ _ _ _ _ _ ht => absurd rfl ht
  case and es => exact fun _ => inv_and (CC := TestIs f sc _) h fun es' p hx => .and hx
  case or es => exact fun _ => inv_or (CC := TestIs f sc _) h fun es' p hx => .or hx
  case not x => exact fun _ => inv_not (CC := TestIs f sc _) h fun x' p hx => .not hx
  case ife c a b => exact fun _ => inv_ife (CC := TestIs f sc _) h fun c' a' b' p h1 h2 h3 => .ife h1 h2 h3
  case cmp l op r => exact fun _ => inv_cmp (CC := TestIs f sc _) h fun l' r' ps hl hr hm => .cmp hl hr hm
  case chain l o1 m o2 r => exact fun _ => inv_chain (CC := TestIs f sc _) h fun l' m' r' ps hl hm hr hk => .chain hl hm hr hk
  case comp mu elt x fr it cond =>
    refine byC fun no9 => ?_
    obtain ⟨_,_,_,_,_,_,rfl,_⟩ := inv_comp h
    refine no9 ?_
    clear no9
    exact fun ht => absurd rfl ht
theorem b_step {T : Nat → Option Con} {fq f : EF} (KO : KOk K) (hq : ESound prog w K p loose mean mg mb true D fq) (hqb : BSound prog w K p loose mean mg mb true D fq) (hf : ESound prog w K p loose mean mg mb ql D f) (hb : BSound prog w K p loose mean mg mb ql D f) (hT : TOk prog w K p loose mean mg mb ql D T) : BSound prog w K p loose mean mg mb ql D (stepE T fq f) := by
  intro n ie e t h O H wd s Q X S L q
  have E := e_step KO hq hqb hf hb hT n ie e t h O H wd s (fun v H' => isB v fun b => Q b H') X S L q
  obtain ⟨n,rfl,hk⟩ := chk_pos h; replace h := hk; clear hk
  by_cases ht : testy e = false
  · exact b_plain E (isTrue_value ht)
  cases testy_inv h ht with
  | and hx => exact b_and hb O hx S L q
  | or hx => exact b_or hb O hx S L q
  | not hx => exact b_not hb hx O S L q
  | neg => exact q.elim
  | ife h1 h2 h3 => exact b_ife hb h1 h2 h3 O S L q
  | cmp hl hr hm => exact b_cmp hf hl hr hm O S L q
  | chain hl hm hr hk => exact b_chain hf hl hm hr hk O S L q
end
section
variable {ql : Bool} {prog : Program} {w : World} {K : Frag} {p : Program} {loose : List Str} {mean : ExcName → Option Value} {mg mb : Str → Option Value} {D : Nat}
  {t : Cxt} {H : MH} {wd : Wd} {s : Shared} {X : Nat → MH → Prop}
structure FOk (t : Cxt) : Prop where
  env : t.env = t.c.env
  kd : ∀ x ∈ t.sc.slots,x ∉ t.sc.cells → t.env.kindOf x = some .local
  db : ∀ x ∈ t.sc.slots,notDebug x = true
  nd : t.sc.slots.Nodup
  cc : ∀ x ∈ t.sc.cells,∀ y ∈ t.sc.cells,∀ a,t.env.cells.lookup x = some a → t.env.cells.lookup y = some a → x = y
structure LocS (w : World) (t : Cxt) (wd : Wd) : Prop where
  len : t.l.length = t.sc.slots.length
  full : ∀ (k : Nat) (v : AV),t.l[k]? = some (some v) → ∃ x V,t.sc.slots[k]? = some x ∧ wd.rep w.params [v] [V] ∧ (x ∉ t.sc.cells → t.m x = some V) ∧ Celled t wd.I x V
  empty : ∀ (k : Nat) (x : Str),t.sc.slots[k]? = some x → x ∈ t.sc.cells → t.l[k]? = some none → ∃ a o,t.env.cells.lookup x = some a ∧ (a,o) ∈ t.Y ∧ o.data = .cell none
theorem LocS.ok (FO : FOk t) (O : Cxt.Ok K p loose mean mg mb D t) (L : LocS w t wd) : LocOk prog w t wd := by
  intro k v e
  refine byC fun no9 => ?_
  obtain ⟨x,V,hx,r,hm,hc⟩ := L.full k v e
  refine no9 ?_
  clear no9
  refine ⟨x,V,hx,r,?_,hc⟩
  have hmem := List.mem_of_getElem? hx
  intro A E Q s1 pos g F hY hI q
  by_cases hcell : x ∈ t.sc.cells
  · obtain ⟨a,o,h1,h2,h3⟩ := hc hcell
    obtain ⟨_,hk,_⟩ := O.cel x hcell
    exact wpAny_Name (wpAny_loadName_cell O.fn hk h1 ⟨o,hI _ h2 (Tb.no fun ps h => by rw [h3] at h; cases h),h3⟩ q) (nodebug (FO.db x hmem))
  · refine wpAny_Name (wpAny_loadName_local O.fn (FO.kd x hmem hcell) ?_ (hm hcell) q) (nodebug (FO.db x hmem))
    rw [FO.env]; exact F.ns
theorem LocS.step {wd' : Wd} {s' : Shared} (L : LocS w t wd) (st : Step ql t.c wd s wd' s') : LocS w t wd' :=
  ⟨L.len,fun k v e => by obtain ⟨x,V,a,b,c,d⟩ := L.full k v e; exact ⟨x,V,a,b.step st,c,fun hx => let ⟨a,o,e1,e2,e3⟩ := d hx; ⟨a,o,e1,st.ext.sub _ e2 (Tb.no fun ps h => by rw [e3] at h; cases h),e3⟩⟩,L.empty⟩
noncomputable abbrev Cxt.to (t : Cxt) (m : Str → Option Value) (Y : Led) (l : Loc) : Cxt := { t with m := m,Y := Y,l := l }
theorem Cxt.Ok.to {m : Str → Option Value} {Y : Led} {l : Loc} (O : Cxt.Ok K p loose mean mg mb D t) : Cxt.Ok K p loose mean mg mb D (t.to m Y l) := ⟨O.c,O.gl,O.bi,O.fn,O.kd,O.cel,O.room,O.tb,O.units⟩
theorem FOk.to {m : Str → Option Value} {Y : Led} {l : Loc} (F : FOk t) : FOk (t.to m Y l) := ⟨F.env,F.kd,F.db,F.nd,F.cc⟩
noncomputable def NoCell (t : Cxt) (q : Addr × Obj) : Prop := q.2.data ≠ .cell none ∨ ∀ x ∈ t.sc.cells,t.env.cells.lookup x ≠ some q.1
structure Aft (w : World) (ql : Bool) (t : Cxt) (wd : Wd) (s : Shared) (l' : Loc) (H' : MH) (m' : Str → Option Value) (Y' : Led) (wd' : Wd) (s' : Shared) : Prop where
  st : Step ql t.c wd s wd' s'
  S : RepS t.c w.params m' Y' H' wd' s'.heap
  L : LocS w (t.to m' Y' l') wd'
  sub : ∀ q ∈ Y',q ∈ t.Y
  keep : ∀ q ∈ t.Y,NoCell t q → q ∈ Y'
theorem setK_cell {k : Nat} {v : AV} {l l' : Loc} (h : setK k true v l = some l') : l[k]? = some none ∧ l' = l.set k (some v) := by
  have h : (match l[k]? with | some none => some (l.set k (some v)) | _ => none) = some l' := h
  cases hl : l[k]? with
  | none => rw [hl] at h; exact noneX h
  | some z =>
    cases z with
    | some y => rw [hl] at h; exact noneX h
    | none => rw [hl] at h; exact ⟨rfl,(Option.some.inj h).symm⟩
theorem slot_one {l : List Str} {x : Str} {j k : Nat} (nd : l.Nodup) (hk : l[k]? = some x) (hj : l[j]? = some x) : k = j := (List.getElem?_inj (List.getElem?_eq_some_iff.mp hk).1 nd).mp (hk.trans hj.symm)
theorem set_some {l : Loc} {k j : Nat} {v u : AV} (e : (l.set k (some v))[j]? = some (some u)) : (k = j ∧ v = u) ∨ (k ≠ j ∧ l[j]? = some (some u)) := by
  rw [List.getElem?_set] at e
  by_cases h : k = j
  · rw [if_pos h] at e
    by_cases h2 : k < l.length
    · rw [if_pos h2] at e; exact .inl ⟨h,Option.some.inj (Option.some.inj e)⟩
    · rw [if_neg h2] at e; exact noneX e
  · rw [if_neg h] at e; exact .inr ⟨h,e⟩
theorem set_none {l : Loc} {k j : Nat} {v : AV} (e : (l.set k (some v))[j]? = some none) : k ≠ j ∧ l[j]? = some none := by
  rw [List.getElem?_set] at e
  refine byC fun no9 => ?_
  by_cases h : k = j
  · refine no9 ?_
    clear no9
    rw [if_pos h] at e
    by_cases h2 : k < l.length
    · rw [if_pos h2] at e; exact absurd (Option.some.inj e) (Option.some_ne_none _)
    · rw [if_neg h2] at e; exact noneX e
  · refine no9 ?_
    clear no9
    rw [if_neg h] at e; exact ⟨h,e⟩
theorem LocS.put {k : Nat} {x : Str} {v : AV} {V : Value} (nd : t.sc.slots.Nodup) (L : LocS w t wd) (hx : t.sc.slots[k]? = some x) (hcell : x ∉ t.sc.cells) (r : wd.rep w.params [v] [V]) : LocS w (t.to (fun y => if y = x then some V else t.m y) t.Y (t.l.set k (some v))) wd where
  len := (List.length_set ..).trans L.len
  full := fun j u e => by
    rcases set_some e with ⟨rfl,rfl⟩ | ⟨hjk,e1⟩
    · exact ⟨x,V,hx,r,fun _ => if_pos rfl,fun h => absurd h hcell⟩
    · obtain ⟨y,U,a,b,c,d⟩ := L.full j u e1
      exact ⟨y,U,a,b,fun h => (if_neg fun e : y = x => hjk (slot_one nd hx (e ▸ a))).trans (c h),d⟩
  empty := fun j y hy hyc e => L.empty j y hy hyc (set_none e).2
theorem store_sound {k : Nat} {cell : Bool} {x : Str} {v : AV} {V : Value} {l' : Loc} {Q : Unit → Shared → Prop} {E : Value → Shared → Prop} (FO : FOk t) (O : Cxt.Ok K p loose mean mg mb D t) (hx : t.sc.slots[k]? = some x) (hc : t.sc.cells.contains x = cell) (hl : setK k cell v t.l = some l')
    (S : RepS t.c w.params t.m t.Y H wd s.heap) (L : LocS w t wd) (r : wd.rep w.params [v] [V]) (h : ∀ m' Y' wd' s',Aft w ql t wd s l' H m' Y' wd' s' → Q () s') : wpAny (model prog w) t.c.A (storeName t.env x V) Q E s := by
  cases cell with
  | false =>
    cases Option.some.inj hl
    have hcell : x ∉ t.sc.cells := by simpa using hc
    have hns := S.fr.ns
    refine wpAny_storeName_local (m := t.m) (FO.kd x (List.mem_of_getElem? hx) hcell) (by rw [FO.env]; exact hns) (fun h' hn hs => ?_) (by simp [O.fn])
    rw [FO.env] at hn hs
    refine h (fun y => if y = x then some V else t.m y) t.Y wd _ ⟨.mk',⟨S.below,S.dic,S.fr.set hn hs,S.nw.set hs,S.mr,S.nd,S.sp,S.ap⟩,L.put FO.nd hx hcell r,fun _ h => h,fun _ h _ => h⟩
  | true =>
    have hcell : x ∈ t.sc.cells := by simpa using hc
    refine byC fun no9 => ?_
    obtain ⟨hnone,rfl⟩ := setK_cell hl
    obtain ⟨a,o,h1,h2,h3⟩ := L.empty k x hx hcell hnone
    obtain ⟨_,hkc,_⟩ := O.cel x hcell
    refine no9 ?_
    clear no9
    have ho := (S.nw (a,o) (by simp [h2]))
    refine wpAny_storeName_cell O.fn hkc h1 ⟨o,ho.1,h3⟩ fun h' ⟨o',ho',hd'⟩ hs => ?_
    have kp : ∀ q ∈ wd.all (t.Y.filter (·.1 ≠ a)),q.1 ≠ a := by
      intro q hq
      rcases List.mem_append.mp hq with hq | hq
      · exact S.ap q hq (a,o) h2
      · rcases List.mem_append.mp hq with hq | hq
        · exact (S.sp q hq (a,o) (by simp [h2])).symm
        · simpa using (List.mem_filter.mp hq).2
    have old : ∀ q ∈ wd.all (t.Y.filter (·.1 ≠ a)),q ∈ wd.all t.Y := by
      intro q hq
      simp only [Wd.all,List.mem_append] at hq ⊢
      rcases hq with h | h | h
      · simp [h]
      · simp [h]
      · simp [(List.mem_filter.mp h).1]
    refine h t.m (t.Y.filter (·.1 ≠ a)) { wd with I := (a,o') :: wd.I } _ ⟨⟨.hp,.refl,⟨fun q hq _ => .tail _ hq,fun _ _ h => h⟩,fun _ => rfl⟩,⟨S.below,S.dic,S.fr.change hs ho.2.1 ho.2.2,fun q hq => ?_,S.mr.mono fun q hq => .tail _ hq,S.nd,fun e he q hq => ?_,fun q hq y hy => ?_⟩,⟨?_,?_,?_⟩,fun q hq => (List.mem_filter.mp hq).1,fun q hq hd => List.mem_filter.mpr ⟨hq,?_⟩⟩
    · have hq : q ∈ (a,o') :: wd.all (t.Y.filter (·.1 ≠ a)) := hq
      rcases List.mem_cons.mp hq with rfl | hq
      · exact ⟨ho',ho.2.1,ho.2.2⟩
      · exact ⟨(hs.2 _ (kp q hq)).trans (S.nw q (old q hq)).1,(S.nw q (old q hq)).2⟩
    · have hq : q ∈ (a,o') :: (wd.I ++ t.Y.filter (·.1 ≠ a)) := hq
      rcases List.mem_cons.mp hq with rfl | hq
      · exact S.sp e he (a,o) (by simp [h2])
      · refine S.sp e he q ?_
        rcases List.mem_append.mp hq with h | h
        · simp [h]
        · simp [(List.mem_filter.mp h).1]
    · rcases List.mem_cons.mp hq with rfl | hq
      · exact (by simpa using (List.mem_filter.mp hy).2 : y.1 ≠ a).symm
      · exact S.ap q hq y (List.mem_filter.mp hy).1
    · exact (List.length_set ..).trans L.len
    · intro j u e
      rcases set_some e with ⟨rfl,rfl⟩ | ⟨hjk,e1⟩
      · exact ⟨x,V,hx,r.mono (fun q hq => .tail _ hq) (fun _ _ h => h),fun h => absurd hcell h,fun _ => ⟨a,o',h1,.head _,hd'⟩⟩
      · obtain ⟨y,U,a',b,c,d⟩ := L.full j u e1
        exact ⟨y,U,a',b.mono (fun q hq => .tail _ hq) (fun _ _ h => h),c,fun hy => let ⟨b1,o1,e1,e2,e3⟩ := d hy; ⟨b1,o1,e1,.tail _ e2,e3⟩⟩
    · intro j y hy hyc e
      refine byC fun no9 => ?_
      obtain ⟨hjk,e1⟩ := set_none e
      obtain ⟨b1,o1,e1,e2,e3⟩ := L.empty j y hy hyc e1
      refine no9 ?_
      clear no9
      have hyx : y ≠ x := fun h => hjk (slot_one FO.nd hx (h ▸ hy))
      refine ⟨b1,o1,e1,List.mem_filter.mpr ⟨e2,?_⟩,e3⟩
      have : b1 ≠ a := fun h => hyx (FO.cc y hyc x hcell a (h ▸ e1) h1)
      simpa using this
    · have : q.1 ≠ a := fun hqa => by
        have e1 := (S.nw q (by simp [hq])).1
        simp only [hqa,ho.1] at e1
        cases Option.some.inj e1
        rcases hd with hd | hd
        · exact hd h3
        · exact hd x hcell (hqa ▸ h1)
      simpa using this
theorem Aft.trans {l₁ l₂ : Loc} {H₁ H₂ : MH} {m₁ m₂ : Str → Option Value} {Y₁ Y₂ : Led} {wd₁ wd₂ : Wd} {s₁ s₂ : Shared} (a : Aft w ql t wd s l₁ H₁ m₁ Y₁ wd₁ s₁) (b : Aft w ql (t.to m₁ Y₁ l₁) wd₁ s₁ l₂ H₂ m₂ Y₂ wd₂ s₂) : Aft w ql t wd s l₂ H₂ m₂ Y₂ wd₂ s₂ :=
  ⟨a.st.trans b.st,b.S,b.L,fun q hq => a.sub q (b.sub q hq),fun q hq hd => b.keep q (a.keep q hq hd) hd⟩
theorem tgt1_some {sc : Sc} {k : Nat} {c : Bool} {e : Expr} (h : tgt1 sc k c e = true) : ∃ x ps,e = .Name x ps ∧ sc.slots[k]? = some x ∧ sc.cells.contains x = c :=
  by obtain ⟨y,h1,h⟩ := optB_some h; exact let h := and3 h
  ⟨y.1,y.2,nameE_eq h1,beq_iff_eq.mp h.1,beq_iff_eq.mp h.2.2⟩
theorem tgt_sound1 {k : Nat} {c : Bool} {e : Expr} {v : AV} {V : Value} {l' : Loc} {Q : Unit → Shared → Prop} {E : Value → Shared → Prop} (FO : FOk t) (O : Cxt.Ok K p loose mean mg mb D t) (ht : tgt1 t.sc k c e = true) (hl : setK k c v t.l = some l')
    (S : RepS t.c w.params t.m t.Y H wd s.heap) (L : LocS w t wd) (r : wd.rep w.params [v] [V]) (h : ∀ m' Y' wd' s',Aft w ql t wd s l' H m' Y' wd' s' → Q () s') : wpAny (model prog w) t.c.A (assign e t.env V) Q E s := by
  obtain ⟨x,ps,rfl,hx,hc⟩ := tgt1_some ht
  exact wpAny_assign_Name (store_sound FO O hx hc hl S L r h)
theorem tgts_find : ∀ {sc : Sc} {ks : Ks} {es : List Expr} {env : Env},tgts sc ks es = true → (assignEach es env).length = ks.length ∧ (assignEach es env).findIdx? (fun x => x.1) = none
  | _,[],[],_,_ => ⟨rfl,rfl⟩
  | sc,(k,c) :: ks,e :: es,env,h => by
    have h := and2 h
    obtain ⟨x,ps,rfl,_⟩ := tgt1_some h.1
    obtain ⟨h1,h2⟩ := tgts_find (env := env) h.2
    have e1 : assignEach (.Name x ps :: es) env = (false,assign (.Name x ps) env) :: assignEach es env := rfl
    rw [e1]
    refine ⟨by rw [List.length_cons,List.length_cons,h1],?_⟩
    rw [List.findIdx?_cons]
    simp only [Bool.false_eq_true,if_false,h2]
    rfl
  | _,[],_ :: _,_,h => falseX h
  | _,_ :: _,[],_,h => falseX h
theorem setAll_len : ∀ {ks : Ks} {vs : List AV} {l l' : Loc},setAll ks vs l = some l' → ks.length = vs.length
  | [],[],_,_,_ => rfl
  | (k,c) :: ks,v :: vs,l,l',h => by
    have h : (match setK k c v l with | some l1 => setAll ks vs l1 | none => none) = some l' := h
    rcases hk : setK k c v l with _ | l2
    · rw [hk] at h; exact noneX h
    · rw [hk] at h; rw [List.length_cons,List.length_cons,setAll_len h]
  | [],_ :: _,_,_,h => noneX h
  | (_,_) :: _,[],_,_,h => noneX h
theorem setAll_c {k : Nat} {c : Bool} {ks : Ks} {v : AV} {vs : List AV} {l l1 : Loc} (h : setAll ((k,c) :: ks) (v :: vs) l = some l1) : ∃ l2,setK k c v l = some l2 ∧ setAll ks vs l2 = some l1 := by
  have h : (match setK k c v l with | some l1 => setAll ks vs l1 | none => none) = some l1 := h
  rcases hk : setK k c v l with _ | l2
  · rw [hk] at h; exact noneX h
  · rw [hk] at h; exact ⟨l2,rfl,h⟩
theorem stores_sound {Q : Unit → Shared → Prop} {E : Value → Shared → Prop} {ks : Ks} : ∀ {es : List Expr} {vs : List AV} {Vs : List Value} {t : Cxt} {wd : Wd} {s : Shared} {l' : Loc},FOk t → Cxt.Ok K p loose mean mg mb D t → tgts t.sc ks es = true → setAll ks vs t.l = some l' →
    RepS t.c w.params t.m t.Y H wd s.heap → LocS w t wd → wd.rep w.params vs Vs → (∀ m' Y' wd' s',Aft w ql t wd s l' H m' Y' wd' s' → Q () s') → wpAny (model prog w) t.c.A (assignInOrder ((assignEach es t.env).map (·.2)) Vs) Q E s := by
  induction ks with
  | nil =>
    intro es vs Vs t wd s l' FO O ht hl S L r h
    cases es with
    | cons _ _ => exact falseX ht
    | nil =>
      cases vs with
      | cons _ _ => exact noneX hl
      | nil =>
        cases Option.some.inj hl
        cases Rs.nil0 r
        exact wpAny_pure (h t.m t.Y wd s ⟨.refl ..,S,L,fun _ h => h,fun _ h _ => h⟩)
  | cons z ks ih =>
    intro es vs Vs t wd s l' FO O ht hl S L r h
    cases es with
    | nil => exact falseX ht
    | cons e es =>
      cases vs with
      | nil => exact noneX hl
      | cons v vs =>
        refine byC fun no9 => ?_
        obtain ⟨l1,hl1,hl⟩ := setAll_c hl
        obtain ⟨V,Vs',rfl,r1,r2⟩ := r.uncons
        obtain ⟨x,ps,rfl,hx,hc⟩ := tgt1_some (and2 ht).1
        refine no9 ?_
        clear no9
        show wpAny _ _ (do holding Vs' (assign (.Name x ps) t.env V); assignInOrder ((assignEach es t.env).map (·.2)) Vs') _ _ _
        refine wpAny_bind (wpAny_holding (wpAny_assign_Name (store_sound (ql := ql) FO O hx hc hl1 S L r1 fun m' Y' wd' s' a => ?_)))
        exact ih (t := t.to m' Y' l1) FO.to O.to (and2 ht).2 hl a.S a.L (r2.step a.st) fun m'' Y'' wd'' s'' b => h _ _ _ _ (a.trans b)
end
end Mine.Internal
open LCg LCt
namespace Mine.Internal
noncomputable def FlR (w : World) (wd : Wd) : FL → Flow → Prop
  | .next,.next => True
  | .brk,.brk => True
  | .cont,.cont => True
  | .ret v,.ret V => wd.rep w.params [v] [V]
  | _,_ => False
theorem flr_n {w : World} {wd : Wd} {f : Flow} (h : FlR w wd .next f) : f = .next := by cases f <;> first | rfl | exact h.elim
theorem flr_b {w : World} {wd : Wd} {f : Flow} (h : FlR w wd .brk f) : f = .brk := by cases f <;> first | rfl | exact h.elim
theorem flr_c {w : World} {wd : Wd} {f : Flow} (h : FlR w wd .cont f) : f = .cont := by cases f <;> first | rfl | exact h.elim
theorem flr_r {w : World} {wd : Wd} {f : Flow} {v : AV} (h : FlR w wd (.ret v) f) : ∃ V,f = .ret V ∧ wd.rep w.params [v] [V] := by cases f <;> first | exact ⟨_,rfl,h⟩ | exact h.elim
section
variable (prog : Program) (w : World) (K : Frag) (p : Program) (loose : List Str) (mean : ExcName → Option Value) (mg mb : Str → Option Value)
noncomputable abbrev XS (ql : Bool) (t : Cxt) (wd : Wd) (s : Shared) (X : Nat → MH → Prop) (Er : Value → Shared → Prop) : Prop := ∀ cl H' m' Y' wd' s' e,X cl H' → Step ql t.c wd s wd' s' → RCS t.c w.params m' Y' H' wd' cl e s'.heap → (∀ q ∈ t.Y,NoCell t q → q ∈ Y') → Er e s'
noncomputable def SSound (ql : Bool) (D : Nat) (g : SF) : Prop :=
  ∀ (n : Nat) (ib : List IS) (b : List Stmt) (t : Cxt),chkS n t.sc ib b = true → Cxt.Ok K p loose mean mg mb D t → FOk t → ∀ (H : MH) (wd : Wd) (s : Shared) (Q : FL → Loc → MH → Prop) (X : Nat → MH → Prop),RepS t.c w.params t.m t.Y H wd s.heap → LocS w t wd → g ib t.l H Q X →
    ∀ (Qr : Flow → Shared → Prop) (Er : Value → Shared → Prop),(t.sc.loops = true → PassesOwn (model prog w) t.c.A t.env Er) → (∀ fl fV l' H' m' Y' wd' s',Q fl l' H' → Aft w ql t wd s l' H' m' Y' wd' s' → FlR w wd' fl fV → Qr fV s') → XS w ql t wd s X Er → wpAny (model prog w) t.c.A (execs b t.env) Qr Er s
noncomputable def USound (ql : Bool) (D : Nat) (f : EF) : Prop :=
  ∀ (n : Nat) (ie : IE) (elt' it' : Expr) (xx y : Str) (px py ps spos : Pos) (ifs : List Expr) (sp : Scope) (t : Cxt),chkE n t.sc ie (.ListComp elt' [⟨.Name xx px,it',ifs,0⟩] sp ps) = true → Cxt.Ok K p loose mean mg mb D t → t.env = t.c.env → t.env.kindOf y = some .local → (py.line == ps.line) = true →
    (sp.names.any fun z => z.1 == y && (z.2 == .local || z.2 == .cell)) = false → ∀ (H : MH) (wd : Wd) (s : Shared) (Q : AV → MH → Prop) (X : Nat → MH → Prop),RepS t.c w.params t.m t.Y H wd s.heap → LocOk prog w t wd → f ie t.l H Q X →
    ∀ (Qr : Flow → Shared → Prop) (Er : Value → Shared → Prop),(∀ v H' wd' s' V,Q v H' → Step ql t.c wd s wd' s' → RepS t.c w.params (fun z => if z = y then some V else t.m z) t.Y H' wd' s'.heap → wd'.rep w.params [v] [V] → Qr .next s') → XC w ql t wd s X Er →
    wpAny (model prog w) t.c.A (exec (.Assign [.Name y py] (.ListComp elt' [⟨.Name xx px,it',ifs,0⟩] sp ps) spos) t.env) Qr Er s
end
section
variable {ql : Bool} {prog : Program} {w : World} {K : Frag} {p : Program} {loose : List Str} {mean : ExcName → Option Value} {mg mb : Str → Option Value} {D : Nat}
noncomputable def compQ (mu : Bool) (Q : AV → MH → Prop) : List AV → MH → Prop := fun ys H2 => match mu with
  | false => Q (.lst ys) H2
  | true => (∀ (P : Params) (I : Led) (xs : List Addr) (Vs : List Value),Rs P I xs ys Vs → Rs P I [] ys Vs) ∧ Q (.mu H2.length) (H2 ++ [ys])
theorem lc_ie {f : Sc → IE → Expr → Bool} {sc : Sc} {ie : IE} {e' : Expr} {g : List Comprehension} {sp : Scope} {ps : Pos} (h : stepC f sc ie (.ListComp e' g sp ps) = true) : ∃ mu elt x fr it cond,ie = .comp mu elt x fr it cond := by
  cases ie <;> first | exact ⟨_,_,_,_,_,_,rfl⟩ | exact falseX h | (rename_i v; cases v <;> exact falseX h)
theorem lc_inv {f : Sc → IE → Expr → Bool} {sc : Sc} {mu : Bool} {elt it : IE} {x xx : Str} {fr : List Nat} {cond : Option IE} {elt' it' : Expr} {px ps : Pos} {ifs : List Expr} {sp : Scope} (h : stepC f sc (.comp mu elt x fr it cond) (.ListComp elt' [⟨.Name xx px,it',ifs,0⟩] sp ps) = true) :
    x = xx ∧ compOk sc sp x fr = true ∧ notSet it' = true ∧ f sc it it' = true ∧ f (inSc sc sp x fr) elt elt' = true ∧ chkL (f (inSc sc sp x fr)) cond.toList ifs = true := by
  obtain ⟨elt2,px2,it2,ifs2,sp2,ps2,he2,hc,hns,hi,he,ht⟩ := inv_comp h
  have h1 := Option.some.inj (congrArg lcE he2)
  have h3 := (List.cons.inj (congrArg (·.2.1) h1)).1
  have a1 : elt' = elt2 := congrArg (·.1) h1
  have a3 : sp = sp2 := congrArg (·.2.2) h1
  have a4 : it' = it2 := congrArg Comprehension.iter h3
  have a5 : ifs = ifs2 := congrArg Comprehension.ifs h3
  have a8 : xx = x := congrArg (·.1) (Option.some.inj (congrArg nameE (congrArg Comprehension.target h3)))
  clear he2 h1 h3
  subst a1 a3 a4 a5
  exact ⟨a8.symm,hc,hns,hi,he,ht⟩
theorem u_step {T : Nat → Option Con} {fq f : EF} (hf : ESound prog w K p loose mean mg mb ql D f) (hq : ESound prog w K p loose mean mg mb true D fq) (hb : BSound prog w K p loose mean mg mb true D fq) : USound prog w K p loose mean mg mb ql D (stepE T fq f) := by
  intro n ie elt' it' xx y px py ps spos ifs sp t hch O henv hy hline hnot H wd s Q X S L q Qr Er hK hX
  refine byC fun no9 => ?_
  obtain ⟨n,rfl,hch2⟩ := chk_pos hch
  refine no9 ?_
  clear no9
  clear hch
  have hch := hch2
  clear hch2
  have hie := lc_ie hch
  refine byC fun no9 => ?_
  obtain ⟨mu,elt,x,fr,it,cond,rfl⟩ := hie
  obtain ⟨rfl,hc,hns,hi,he,ht⟩ := lc_inv hch
  refine no9 ?_
  clear no9
  have q : f it t.l H (fun v H1 => optP (itemsOf v) fun vs => vs.length ≤ 100000 ∧ comps fq elt cond (fr.map fun k => (t.l[k]?).getD none) vs [] H1 (compQ mu Q)) X := q
  refine byC fun no9 => ?_
  obtain ⟨cl,hclos,hcl⟩ := clos_ok O hc
  obtain ⟨c1,c2,c3,c4,c5,c6,c7⟩ := compOk_parts hc
  refine no9 ?_
  clear no9
  have hsw : swapsWith (.ListComp elt' [⟨.Name x px,it',ifs,0⟩] sp ps) (some (.Name y py)) spos.line t.env = pure true := by
    have hbk : t.env.blockKind = .function := by unfold Env.blockKind; rw [O.fn]; rfl
    show pure (t.env.blockKind == .function && t.env.kindOf y == some .local && py.line == ps.line && !(sp.names.any fun z => z.1 == y && (z.2 == .local || z.2 == .cell))) = _
    simp only [hbk,hy,hline,hnot]
    rfl
  rw [exec_Assign_Name_used _ _ _ _ hsw]
  refine wpAny_bind (wpAny_standAt (wpAny_bind ?_))
  show wpAny _ t.c.A (do let _ ← comprehension (.ListComp elt' [⟨.Name x px,it',ifs,0⟩] sp ps) sp t.env _ (newList []) false (eval it' t.env) (some (assign (.Name y py) t.env))) _ _ s
  refine wpAny_bind (wpAny_mono (wpAny_comprehension_free (use := some (assign (.Name y py) t.env)) (Q := fun _ s' => Qr .next s') rfl (set_of hns) hclos c1 c3 ?_) (fun _ s' hq => wpAny_pure (wpAny_pure hq)) fun _ _ e => e)
  refine hf n it it' t hi O H wd s _ X S L q _ _ (fun v H1 wd1 s1 V q1 st1 S1 r1 => ?_) hX
  refine byC fun no9 => ?_
  obtain ⟨vs,hvs,hz,q2⟩ := optP_some q1
  refine no9 ?_
  clear no9
  refine comp_block (n := n) hq hb he ht O hc hcl hvs hz q2 S1 (L.step prog w st1) r1 ?_
  intro D' C h tk m' ys news' F' N' o1 hn hC₀ hD₀ hCL hDL hCD offC fin
  have hloc : t.env.locals = t.c.L := by rw [henv]
  refine wpAny_assign_Name (wpAny_storeName_local (m := t.m) hy (by rw [hloc]; exact F'.ns) (fun h₂ hn₂ hs₂ => ?_) (by simp [O.fn]))
  rw [hloc] at hn₂ hs₂
  refine ⟨m',hn.sameBut hs₂ hCL,fun h'' hs'' => ?_⟩
  have F2 : Fr wd1.g t.c.L h'' (fun z => if z = y then some (.ref D') else t.m z) := (F'.set hn₂ hs₂).change hs'' hCL hC₀
  have N2 : News wd1.g t.c.L h'' ((D',LCg.lst ys) :: news') := fun p hp => by
    refine ⟨hs''.extBut _ _ ?_ (hs₂.extBut _ _ (N' p hp).2.1 (N' p hp).1),(N' p hp).2⟩
    rcases List.mem_cons.mp hp with rfl | hp
    · exact Ne.symm hCD
    · exact offC p hp
  refine byC fun no9 => ?_
  obtain ⟨v',H',wd',qv,S',r',E',hg⟩ := comp_end (mu := mu) (Q := Q) (s0 := s1) (tk := tk) o1 F2 N2 fin
  refine no9 ?_
  clear no9
  exact hK v' H' wd' _ _ qv (st1.trans ⟨.mk,hg ▸ .refl,E',fun _ => hg⟩) S' r'
end
section
variable {ql : Bool} {prog : Program} {w : World} {K : Frag} {p : Program} {loose : List Str} {mean : ExcName → Option Value} {mg mb : Str → Option Value} {D : Nat}
  {t : Cxt} {H : MH} {wd : Wd} {s : Shared} {X : Nat → MH → Prop} {Q : FL → Loc → MH → Prop} {Qr : Flow → Shared → Prop} {Er : Value → Shared → Prop}
theorem Step.weak {c : FrameCx} {w w' : Wd} {s s' : Shared} (a : Step true c w s w' s') : Step ql c w s w' s' := ⟨a.same,a.turn,a.ext,fun _ => a.still rfl⟩
theorem Aft.weak {l' : Loc} {H' : MH} {m' : Str → Option Value} {Y' : Led} {wd' : Wd} {s' : Shared} (a : Aft w true t wd s l' H' m' Y' wd' s') : Aft w ql t wd s l' H' m' Y' wd' s' := ⟨a.st.weak,a.S,a.L,a.sub,a.keep⟩
noncomputable abbrev XQ (w : World) (ql : Bool) (t : Cxt) (wd : Wd) (s : Shared) (Q : FL → Loc → MH → Prop) (Qr : Flow → Shared → Prop) : Prop := ∀ fl fV l' H' m' Y' wd' s',Q fl l' H' → Aft w ql t wd s l' H' m' Y' wd' s' → FlR w wd' fl fV → Qr fV s'
theorem Aft.here {H' : MH} {wd' : Wd} {s' : Shared} (S : RepS t.c w.params t.m t.Y H' wd' s'.heap) (L : LocS w t wd) (st : Step ql t.c wd s wd' s') : Aft w ql t wd s t.l H' t.m t.Y wd' s' := ⟨st,S,L.step st,fun _ h => h,fun _ h _ => h⟩
theorem XS.ex (hX : XS w ql t wd s X Er) : XC w ql t wd s X Er := fun cl H' wd' s' e x st r => hX cl H' t.m t.Y wd' s' e x st r.s fun _ h _ => h
theorem XS.on {l₁ : Loc} {H₁ : MH} {m₁ : Str → Option Value} {Y₁ : Led} {wd₁ : Wd} {s₁ : Shared} (hX : XS w ql t wd s X Er) (a : Aft w ql t wd s l₁ H₁ m₁ Y₁ wd₁ s₁) : XS w ql (t.to m₁ Y₁ l₁) wd₁ s₁ X Er := fun cl H' m' Y' wd' s' e x st r k => hX cl H' m' Y' wd' s' e x (a.st.trans st) r fun q hq hd => k q (a.keep q hq hd) hd
theorem XS.st {wd₁ : Wd} {s₁ : Shared} (hX : XS w ql t wd s X Er) (a : Step ql t.c wd s wd₁ s₁) : XS w ql t wd₁ s₁ X Er := fun cl H' m' Y' wd' s' e x st r k => hX cl H' m' Y' wd' s' e x (a.trans st) r k
theorem XQ.on {l₁ : Loc} {H₁ : MH} {m₁ : Str → Option Value} {Y₁ : Led} {wd₁ : Wd} {s₁ : Shared} (hQ : XQ w ql t wd s Q Qr) (a : Aft w ql t wd s l₁ H₁ m₁ Y₁ wd₁ s₁) : XQ w ql (t.to m₁ Y₁ l₁) wd₁ s₁ Q Qr := fun fl fV l' H' m' Y' wd' s' q b f => hQ fl fV l' H' m' Y' wd' s' q (a.trans b) f
theorem Aft.stp {wd₁ : Wd} {s₁ : Shared} {l' : Loc} {H' : MH} {m' : Str → Option Value} {Y' : Led} {wd' : Wd} {s' : Shared} (a : Step ql t.c wd s wd₁ s₁) (b : Aft w ql t wd₁ s₁ l' H' m' Y' wd' s') : Aft w ql t wd s l' H' m' Y' wd' s' := ⟨a.trans b.st,b.S,b.L,b.sub,b.keep⟩
theorem XQ.st {wd₁ : Wd} {s₁ : Shared} (hQ : XQ w ql t wd s Q Qr) (a : Step ql t.c wd s wd₁ s₁) : XQ w ql t wd₁ s₁ Q Qr := fun fl fV l' H' m' Y' wd' s' q b f => hQ fl fV l' H' m' Y' wd' s' q (Aft.stp a b) f
theorem RepS.subX {c : FrameCx} {P : Params} {m : Str → Option Value} {X X' : Led} {H : MH} {w : Wd} {h : Heap} (S : RepS c P m X H w h) (hs : ∀ q ∈ X',q ∈ X) : RepS c P m X' H w h :=
  ⟨S.below,S.dic,S.fr,fun q hq => S.nw q (by
    rcases List.mem_append.mp hq with h | h
    · exact List.mem_append_left _ h
    · rcases List.mem_append.mp h with h | h
      · exact List.mem_append_right _ (List.mem_append_left _ h)
      · exact List.mem_append_right _ (List.mem_append_right _ (hs q h))),S.mr,S.nd,fun e he q hq => S.sp e he q (by
    rcases List.mem_append.mp hq with h | h
    · exact List.mem_append_left _ h
    · exact List.mem_append_right _ (hs q h)),fun q hq x hx => S.ap q hq x (hs x hx)⟩
theorem swaps_no {value target : _} {line : Nat} {env : Env} (h : notComp value = true) : swapsWith value target line env = pure false := by
  cases value <;> first | rfl | exact falseX h
theorem asgOk_or {x : Str} {ps : Pos} {c : Bool} {e' : Expr} (h : asgOk x ps c e' = true) : notComp e' = true ∨ ∃ elt gens sp qq,e' = .ListComp elt gens sp qq ∧ (!c && ps.line == qq.line && !(sp.names.any fun y => y.1 == x && (y.2 == .local || y.2 == .cell))) = true := by
  cases e' <;> first | exact .inl h | exact .inr ⟨_,_,_,_,rfl,h⟩
theorem comp_gens {n : Nat} {sc : Sc} {e : IE} {elt' : Expr} {gens : List Comprehension} {sp : Scope} {qq : Pos} (he : chkE n sc e (.ListComp elt' gens sp qq) = true) : ∃ xx px it' ifs,gens = [⟨.Name xx px,it',ifs,0⟩] := by
  refine byC fun no9 => ?_
  obtain ⟨n',rfl,he'⟩ := chk_pos he
  refine no9 ?_
  clear no9
  cases e <;> first | (exact falseX he') | skip
  · obtain ⟨elt2,px2,it2,ifs2,sp2,ps2,he2,_⟩ := inv_comp he'
    exact ⟨_,_,_,_,(Expr.ListComp.inj he2).2.1⟩
theorem s_asg {f : EF} {n k : Nat} {c : Bool} {e : IE} {e' : Expr} {x : Str} {ps pos : Pos} (hf : ESound prog w K p loose mean mg mb ql D f) (hu : USound prog w K p loose mean mg mb ql D f) (FO : FOk t) (O : Cxt.Ok K p loose mean mg mb D t) (ht : tgt1 t.sc k c (.Name x ps) = true) (he : chkE n t.sc e e' = true)
    (hm : asgOk x ps c e' = true)
    (S : RepS t.c w.params t.m t.Y H wd s.heap) (L : LocS w t wd) (q : f e t.l H (fun v H1 => optP (setK k c v t.l) fun l1 => Q .next l1 H1) X) (hQ : XQ w ql t wd s Q Qr) (hX : XS w ql t wd s X Er) :
    wpAny (model prog w) t.c.A (exec (.Assign [.Name x ps] e' pos) t.env) Qr Er s := by
  refine byC fun no9 => ?_
  obtain ⟨x',ps',hxx,hx,hc⟩ := tgt1_some ht
  refine no9 ?_
  clear no9
  cases hxx
  have plain : notComp e' = true → wpAny (model prog w) t.c.A (exec (.Assign [.Name x ps] e' pos) t.env) Qr Er s := by
    intro hn
    refine wpAny_Assign_Name ?_ (swaps_no hn)
    refine hf n e e' t he O H wd s _ X S (L.ok FO O) q _ _ (fun v H1 wd1 s1 V q1 st1 S1 r1 => ?_) hX.ex
    obtain ⟨l1,hl,q2⟩ := optP_some q1
    exact store_sound (ql := ql) FO O hx hc hl S1 (L.step st1) r1 fun m' Y' wd' s' a => hQ _ _ _ _ _ _ _ _ q2 (Aft.stp st1 a) (by trivial)
  refine byC fun no9 => ?_
  rcases asgOk_or hm with hn | ⟨elt',gens,sp,qq,rfl,h3⟩
  · refine no9 ?_
    clear no9
    exact plain hn
  · refine no9 ?_
    clear no9
    have h3 := and3 h3
    refine byC fun no9 => ?_
    obtain ⟨xx,px,it',ifs,rfl⟩ := comp_gens he
    refine no9 ?_
    clear no9
    have hcf : c = false := not_f h3.1
    subst hcf
    have hcell : x ∉ t.sc.cells := by simpa using hc
    refine hu n e elt' it' xx x px ps qq pos ifs sp t he O FO.env (FO.kd x (List.mem_of_getElem? hx) hcell) h3.2.1 (not_f h3.2.2) H wd s _ X S (L.ok FO O) q _ _ (fun v H1 wd1 s1 V q1 st1 S1 r1 => ?_) hX.ex
    obtain ⟨l1,hl,q2⟩ := optP_some q1
    cases Option.some.inj hl
    exact hQ _ _ _ _ _ _ _ _ q2 ⟨st1,S1,(L.step st1).put FO.nd hx hcell r1,fun _ h => h,fun _ h _ => h⟩ (by trivial)
theorem kset : ∀ {l : List Value} {k : Nat} {v : Value},k < l.length → ki_setL l k v = some (l.set k v)
  | [],k,v,h => absurd h (Nat.not_lt_zero _)
  | z :: l,0,v,h => rfl
  | z :: l,k + 1,v,h => by simp only [ki_setL,kset (Nat.lt_of_succ_lt_succ h)]; rfl
noncomputable def AsgIs (v x y : AV) (H : MH) (Q : MH → Prop) : Prop := ∃ j k xs,x = .mu j ∧ y = .int k ∧ H[j]? = some xs ∧ (0 ≤ k ∧ k < (xs.length : Int) ∧ xs.length ≤ 100000) ∧ (∀ (P : Params) (I : Led) (xs : List Addr) (V : Value),RepV P I xs v V → RepV P I [] v V) ∧ Q (H.set j (xs.set k.toNat v))
theorem s_asgI {f : EF} {n : Nat} {o i e : IE} {o' i' e' : Expr} {ps pos : Pos} (hf : ESound prog w K p loose mean mg mb ql D f) (FO : FOk t) (O : Cxt.Ok K p loose mean mg mb D t) (ho : chkE n t.sc o o' = true) (hi : chkE n t.sc i i' = true) (he : chkE n t.sc e e' = true) (hn : notComp e' = true)
    (S : RepS t.c w.params t.m t.Y H wd s.heap) (L : LocS w t wd) {fq : EF} {gq g : SF} (q : stepI ql fq gq f g (.asgI o i e) t.l H Q X) (hQ : XQ w ql t wd s Q Qr) (hX : XS w ql t wd s X Er) :
    wpAny (model prog w) t.c.A (exec (.Assign [.Subscript o' i' ps] e' pos) t.env) Qr Er s := by
  refine wpAny_Assign_Subscript ?_ (swaps_no hn)
  have Lo : LocOk prog w t wd := L.ok FO O
  refine hf n e e' t he O H wd s _ X S Lo q _ _ (fun v H1 wd1 s1 V q1 st1 S1 r1 => ?_) hX.ex
  refine hf n o o' t ho O H1 wd1 s1 _ X S1 (Lo.step prog w st1) q1 _ _ (fun x H2 wd2 s2 W q2 st2 S2 r2 => ?_) (hX.st st1).ex
  have st12 := st1.trans st2
  refine hf n i i' t hi O H2 wd2 s2 _ X S2 (Lo.step prog w st12) q2 _ _ (fun y H3 wd3 s3 U q3 st3 S3 r3 => ?_) (hX.st st12).ex
  have st13 := st12.trans st3
  have q4 : AsgIs v x y H3 fun H' => Q .next t.l H' := by
    cases x <;> first | exact False.elim q3 | (cases y <;> first | exact False.elim q3 | skip)
    rename_i j k
    have q3 : (match H3[j]? with | some xs => (0 ≤ k ∧ k < xs.length ∧ xs.length ≤ 100000) ∧ (∀ (P : Params) (I : Led) (xs : List Addr) (V : Value),RepV P I xs v V → RepV P I [] v V) ∧ Q .next t.l (H3.set j (xs.set k.toNat v)) | none => False) := q3
    cases hx : H3[j]? with
    | none => rw [hx] at q3; exact False.elim q3
    | some xs => rw [hx] at q3; exact ⟨j,k,xs,rfl,rfl,hx,q3⟩
  clear q3
  refine byC fun no9 => ?_
  obtain ⟨j,k,xs,rfl,rfl,hx,⟨k0,k1,k2⟩,q4,q5⟩ := q4
  refine no9 ?_
  clear no9
  · obtain ⟨u,rfl⟩ := RepV.i r3
    refine byC fun no9 => ?_
    obtain ⟨a',ws,nn,rfl,hm,rw',hmem⟩ := mu_at S3 (r2.step st3) hx
    refine no9 ?_
    clear no9
    have hl := rw'.length
    have hkl : k.toNat < ws.length := by lia
    refine ki_set (its := ws.toArray) (n := nn) (q := ws.set k.toNat V) (news' := (a',lstO (ws.set k.toNat V) nn) :: (wd3.all t.Y).filter (·.1 ≠ a')) S3.fr (S3.filt hmem) k0 (by lia) (kset hkl) (upd_filter (l := wd3.all t.Y)) fun h' F' N' => ?_
    have r1' := q4 _ _ _ _ (r1.step (st2.trans st3))
    obtain ⟨S',E'⟩ := S3.setM hm F' N' (rw'.set k.toNat r1')
    have stf : Step ql t.c wd s { wd3 with Mo := wd3.Mo.set j (a',lstO (ws.set k.toNat V) nn) } { s3 with heap := h' } := st13.trans ⟨.hp,.refl,E',fun _ => rfl⟩
    exact hQ _ _ _ _ t.m t.Y _ _ q5 (Aft.here S' L stf) (by trivial)
theorem swaps_sole {ts : List Expr} {value : Expr} {line : Nat} {env : Env} (h : notComp value = true) : swapsWithSole ts value line env = pure false := by
  rcases ts with _ | ⟨t,_ | ⟨t2,r⟩⟩
  · rfl
  · exact swaps_no h
  · rfl
theorem swapped_none {ts : List Expr} {value : Expr} {env : Env} {k : Nat} {q : Pos} (h : notTup value = true) : swappedStores [.Tuple ts k q] value env = pure none := by
  cases value <;> first | rfl | exact falseX h
theorem tup_keep {s : Shared} {h' : Heap} (he : Heap.ExtBut s.heap.objs.size s.heap h') : ∀ b o,s.heap.get? b = some o → h'.get? b = some o := fun b o e => he b o (Nat.ne_of_lt (Heap.lt_size e)) e
theorem s_asgT {f : EF} {n : Nat} {ks : Ks} {e : IE} {e' : Expr} {es : List Expr} {kk : Nat} {ps pos : Pos} (hf : ESound prog w K p loose mean mg mb ql D f) (FO : FOk t) (O : Cxt.Ok K p loose mean mg mb D t) (ht : tgts t.sc ks es = true) (he : chkE n t.sc e e' = true) (hn : notComp e' = true) (hs : notTup e' = true)
    (S : RepS t.c w.params t.m t.Y H wd s.heap) (L : LocS w t wd) {fq : EF} {gq g : SF} (q : stepI ql fq gq f g (.asgT ks false e) t.l H Q X) (hQ : XQ w ql t wd s Q Qr) (hX : XS w ql t wd s X Er) :
    wpAny (model prog w) t.c.A (exec (.Assign [.Tuple es kk ps] e' pos) t.env) Qr Er s := by
  refine Assign_Tuple ?_ (swaps_sole hn) (swapped_none hs)
  refine hf n e e' t he O H wd s _ X S (L.ok FO O) q _ _ (fun v H1 wd1 s1 V q1 st1 S1 r1 => ?_) hX.ex
  refine byC fun no9 => ?_
  obtain ⟨vs,rfl,q1⟩ : ∃ vs,v = .tup vs ∧ optP (setAll ks vs t.l) fun l1 => Q .next l1 H1 := by cases v <;> first | exact ⟨_,rfl,q1⟩ | exact False.elim q1
  obtain ⟨l1,hl,q2⟩ := optP_some q1
  obtain ⟨d,ws,nn,rfl,m1,r1⟩ := RepV.tu r1
  obtain ⟨g1,g2⟩ := tgts_find (env := t.env) ht
  refine no9 ?_
  clear no9
  refine wpAny_assign_Tuple rfl (items := ws.toArray) ⟨_,S1.allI _ m1,rfl,_,rfl⟩ ?_ g2 fun h' hx => ?_
  · rw [g1,setAll_len hl,← r1.length]; exact List.size_toArray.symm
  have st2 : Step ql t.c wd s wd1 { s1 with heap := h' } := st1.trans ⟨.hp,.refl,.refl _,fun _ => rfl⟩
  exact stores_sound (ql := ql) FO O ht hl (S1.keeps (tup_keep hx)) (L.step st2) r1 fun m' Y' wd' s' a => hQ _ _ _ _ _ _ _ _ q2 (Aft.stp st2 a) (by trivial)
end
section
variable {ql : Bool} {prog : Program} {w : World} {K : Frag} {p : Program} {loose : List Str} {mean : ExcName → Option Value} {mg mb : Str → Option Value} {D : Nat}
  {t : Cxt} {H : MH} {wd : Wd} {s : Shared} {X : Nat → MH → Prop} {Q : FL → Loc → MH → Prop} {Qr : Flow → Shared → Prop} {Er : Value → Shared → Prop}
theorem tgts_names : ∀ {sc : Sc} {ks : Ks} {es : List Expr},tgts sc ks es = true → ∃ kn : List ((Nat × Bool) × Str × Pos),ks = kn.map (·.1) ∧ es = kn.map (fun z => .Name z.2.1 z.2.2) ∧ ∀ z ∈ kn,sc.slots[z.1.1]? = some z.2.1 ∧ sc.cells.contains z.2.1 = z.1.2
  | _,[],[],_ => ⟨[],rfl,rfl,fun _ h => (List.not_mem_nil h).elim⟩
  | sc,(k,c) :: ks,e :: es,h => by
    have h := and2 h
    refine byC fun no9 => ?_
    obtain ⟨x,ps,rfl,h1,h2⟩ := tgt1_some h.1
    obtain ⟨kn,h3,h4,h5⟩ := tgts_names h.2
    refine no9 ?_
    clear no9
    refine ⟨((k,c),x,ps) :: kn,by rw [h3]; rfl,by rw [h4]; rfl,fun z hz => ?_⟩
    rcases List.mem_cons.mp hz with rfl | hz
    · exact ⟨h1,h2⟩
    · exact h5 z hz
  | _,[],_ :: _,h => falseX h
  | _,_ :: _,[],h => falseX h
theorem binds_sound {Q : Unit → Shared → Prop} {E : Value → Shared → Prop} {kn : List ((Nat × Bool) × Str × Pos)} : ∀ {vs : List AV} {Vs : List Value} {t : Cxt} {wd : Wd} {s : Shared} {l' : Loc},FOk t → Cxt.Ok K p loose mean mg mb D t → (∀ z ∈ kn,t.sc.slots[z.1.1]? = some z.2.1 ∧ t.sc.cells.contains z.2.1 = z.1.2) → setAll (kn.map (·.1)) vs t.l = some l' →
    RepS t.c w.params t.m t.Y H wd s.heap → LocS w t wd → wd.rep w.params vs Vs → (∀ m' Y' wd' s',Aft w ql t wd s l' H m' Y' wd' s' → Q () s') → wpAny (model prog w) t.c.A (assignInOrder (kn.map fun z => bindName t.env z.2.1) Vs) Q E s := by
  induction kn with
  | nil =>
    intro vs Vs t wd s l' FO O ht hl S L r h
    cases vs with
    | cons _ _ => exact noneX hl
    | nil =>
      cases Option.some.inj hl
      cases Rs.nil0 r
      exact wpAny_pure (h t.m t.Y wd s ⟨.refl ..,S,L,fun _ h => h,fun _ h _ => h⟩)
  | cons z kn ih =>
    intro vs Vs t wd s l' FO O ht hl S L r h
    cases vs with
    | nil => exact noneX hl
    | cons v vs =>
      refine byC fun no9 => ?_
      obtain ⟨l1,hl1,hl⟩ := setAll_c hl
      obtain ⟨V,Vs',rfl,r1,r2⟩ := r.uncons
      obtain ⟨hx,hc⟩ := ht _ (.head _)
      refine no9 ?_
      clear no9
      refine wpAny_bind (wpAny_holding (bindName_ (store_sound (ql := ql) FO O hx hc hl1 S L r1 fun m' Y' wd' s' a => ?_)))
      exact ih (t := t.to m' Y' l1) FO.to O.to (fun z hz => ht z (.tail _ hz)) hl a.S a.L (r2.step a.st) fun m'' Y'' wd'' s'' b => h _ _ _ _ (a.trans b)
theorem fm_map {F : Expr → Option Str} : ∀ {l : List ((Nat × Bool) × Str × Pos)},(∀ z ∈ l,F (.Name z.2.1 z.2.2) = some z.2.1) → (l.map fun z => Expr.Name z.2.1 z.2.2).filterMap F = l.map (·.2.1)
  | [],_ => rfl
  | z :: l,h => by
    rw [List.map_cons,List.filterMap_cons,h z (.head _),fm_map fun y hy => h y (.tail _ hy)]
    rfl
theorem Rs.rev {P : Params} {I : Led} {xs : List Addr} {l : List AV} : ∀ {R : List Value},Rs P I xs l R → Rs P I xs l.reverse R.reverse := by
  induction l with
  | nil => intro R h; rw [h.nil0]; exact .nil
  | cons v l ih =>
    intro R h
    obtain ⟨V,R1,rfl,h1,h2⟩ := h.uncons
    rw [List.reverse_cons,List.reverse_cons]
    exact (ih h2).app h1
theorem any_star {vs : List Expr} {F : Expr → Bool} (hF : ∀ x,isStar x = false → F x = false) (h : vs.any isStar = false) : vs.any F = false :=
  List.any_eq_false.mpr fun x hx e => by
    rw [hF x (Bool.eq_false_iff.mpr (List.any_eq_false.mp h x hx))] at e; exact falseX e
theorem s_asgTS {f : EF} {n : Nat} {ks : Ks} {e : IE} {e' : Expr} {es : List Expr} {kk : Nat} {ps pos : Pos} (hf : ESound prog w K p loose mean mg mb ql D f) (FO : FOk t) (O : Cxt.Ok K p loose mean mg mb D t) (ht : tgts t.sc ks es = true) (he : chkE n t.sc e e' = true) (hn : notComp e' = true) (hs : swapOk t.sc es e' = true)
    (S : RepS t.c w.params t.m t.Y H wd s.heap) (L : LocS w t wd) {fq : EF} {gq g : SF} (q : stepI ql fq gq f g (.asgT ks true e) t.l H Q X) (hQ : XQ w ql t wd s Q Qr) (hX : XS w ql t wd s X Er) :
    wpAny (model prog w) t.c.A (exec (.Assign [.Tuple es kk ps] e' pos) t.env) Qr Er s := by
  obtain ⟨kn,rfl,rfl,hkn⟩ := tgts_names ht
  have hsw : swappedStores [.Tuple (kn.map fun z => .Name z.2.1 z.2.2) kk ps] e' t.env = pure (some (kn.map (·.2.1))) := by
    obtain ⟨⟨vs,k2,p2⟩,hz0,hs⟩ := optB_some hs
    cases tupE_eq hz0
    have hs : ((((kn.map fun z => Expr.Name z.2.1 z.2.2).length == 2 || (kn.map fun z => Expr.Name z.2.1 z.2.2).length == 3) && vs.length == (kn.map fun z => Expr.Name z.2.1 z.2.2).length && !(vs.any isStar) &&
      ((kn.map fun z => Expr.Name z.2.1 z.2.2).all fun e => optB (nameE e) fun y => !t.sc.cells.contains y.1 && y.2.line == ((kn.map fun z => Expr.Name z.2.1 z.2.2).head?.map (·.pos.line)).getD 0) &&
      ((kn.map fun z => Expr.Name z.2.1 z.2.2).filterMap fun e => (nameE e).map (·.1)).eraseDups.length == (kn.map fun z => Expr.Name z.2.1 z.2.2).length) && !(vs.all (foldedForSure 8)) && !(vs.all (constantsAlone 8))) = true := hs
    have h1 := and3 hs
    have h2 := and2 h1.1
    have h3 := and2 h2.1
    have h4 := and3 h3.1
    have hbk : t.env.blockKind = .function := by unfold Env.blockKind; rw [O.fn]; rfl
    have hall := List.all_eq_true.mp h3.2
    have hed : (kn.map (·.2.1)).eraseDups.length = kn.length := by
      have e1 := h2.2
      rw [fm_map (F := fun e => (nameE e).map (·.1)) (l := kn) fun z _ => rfl] at e1
      simpa using e1
    have hlen : (kn.map fun z => Expr.Name z.2.1 z.2.2).length = kn.length := List.length_map _
    unfold swappedStores
    dsimp only
    rw [if_neg (by
      rw [hbk]
      have e1 := h4.1
      have e2 := h4.2.1
      rw [hlen] at e1 e2 ⊢
      have e3 : (vs.length != kn.length) = false := by simpa using e2
      simp only [e1,e3]
      decide)]
    rw [if_neg (by
      intro hh
      have h5 : (vs.any isStar) = false := by simpa using h4.2.2
      exact falseX ((any_star (fun x hx => by cases x <;> first | rfl | exact falseX hx.symm) h5).symm.trans hh))]
    rw [fm_map (l := kn) (by
      intro z hz
      have := hall _ (List.mem_map.mpr ⟨z,hz,rfl⟩)
      have this := and2 (show (!t.sc.cells.contains z.2.1 && z.2.2.line == ((kn.map fun z => Expr.Name z.2.1 z.2.2).head?.map (·.pos.line)).getD 0) = true from this)
      have hcell : z.2.1 ∉ t.sc.cells := by simpa using this.1
      have hk := FO.kd _ (List.mem_of_getElem? (hkn z hz).1) hcell
      simp only [hk,beq_self_eq_true,Bool.true_and,this.2,if_true])]
    rw [if_neg (by
      simp only [hlen,hed,List.length_map]
      simp),if_neg (by simpa using h1.2.1),if_neg (by simpa using h1.2.2)]
  refine Assign_Tuple_swapped ?_ (swaps_sole hn) hsw
  refine hf n e e' t he O H wd s _ X S (L.ok FO O) q _ _ (fun v H1 wd1 s1 V q1 st1 S1 r1 => ?_) hX.ex
  refine byC fun no9 => ?_
  obtain ⟨vs,rfl,q1⟩ : ∃ vs,v = .tup vs ∧ optP (setAll (kn.map _).reverse vs.reverse t.l) fun l1 => Q .next l1 H1 := by cases v <;> first | exact ⟨_,rfl,q1⟩ | exact False.elim q1
  obtain ⟨l1,hl,q2⟩ := optP_some q1
  obtain ⟨d,ws,nn,rfl,m1,r1⟩ := RepV.tu r1
  refine no9 ?_
  clear no9
  have hlen := setAll_len hl
  simp only [List.length_reverse,List.length_map,List.length_reverse] at hlen
  have hwl : (kn.map (·.2.1)).length = ws.toArray.size := by rw [List.length_map,hlen,← r1.length]; exact List.size_toArray.symm
  rw [hwl]
  refine unpackItems_tuple rfl ⟨_,S1.allI _ m1,rfl,_,rfl⟩ fun h' hx => ?_
  have st2 : Step ql t.c wd s wd1 { s1 with heap := h' } := st1.trans ⟨.hp,.refl,.refl _,fun _ => rfl⟩
  have e1 : (kn.map (·.2.1)).reverse.map (fun n => bindName t.env n) = kn.reverse.map fun z => bindName t.env z.2.1 := by
    rw [← List.map_reverse,List.map_map]; rfl
  rw [e1]
  rw [← List.map_reverse] at hl
  exact binds_sound (ql := ql) (kn := kn.reverse) FO O (fun z hz => hkn z (List.mem_reverse.mp hz)) hl (S1.keeps (tup_keep hx)) (L.step st2) r1.rev fun m' Y' wd' s' a => hQ _ _ _ _ _ _ _ _ q2 (Aft.stp st2 a) (by trivial)
theorem s_iff {f : EF} {g : SF} {n : Nat} {c : IE} {c' : Expr} {a b : List IS} {a' b' : List Stmt} {pos : Pos} (hb : BSound prog w K p loose mean mg mb ql D f) (hg : SSound prog w K p loose mean mg mb ql D g) (FO : FOk t) (O : Cxt.Ok K p loose mean mg mb D t) {n2 : Nat} (hc : chkE n t.sc c c' = true) (h1 : chkS n2 t.sc a a' = true) (h2 : chkS n2 t.sc b b' = true)
    (S : RepS t.c w.params t.m t.Y H wd s.heap) (L : LocS w t wd) (q : f c t.l H (fun v H1 => isB v fun c => brB c (g a t.l H1 Q X) (g b t.l H1 Q X)) X) (hp : t.sc.loops = true → PassesOwn (model prog w) t.c.A t.env Er) (hQ : XQ w ql t wd s Q Qr) (hX : XS w ql t wd s X Er) :
    wpAny (model prog w) t.c.A (exec (.If c' a' b' pos) t.env) Qr Er s := by
  refine wpAny_If ?_
  refine hb n c c' t hc O H wd s (fun c H1 => brB c (g a t.l H1 Q X) (g b t.l H1 Q X)) X S (L.ok FO O) q _ _ (fun v H1 wd1 s1 q1 st1 S1 => ?_) hX.ex
  cases v with
  | true => exact hg n2 a a' t h1 O FO H1 wd1 s1 Q X S1 (L.step st1) (q1.1 rfl) Qr Er hp (hQ.st st1) (hX.st st1)
  | false => exact hg n2 b b' t h2 O FO H1 wd1 s1 Q X S1 (L.step st1) (q1.2 rfl) Qr Er hp (hQ.st st1) (hX.st st1)
end
section
variable {ql : Bool} {prog : Program} {w : World} {K : Frag} {p : Program} {loose : List Str} {mean : ExcName → Option Value} {mg mb : Str → Option Value} {D : Nat}
  {t : Cxt} {H : MH} {wd : Wd} {s : Shared} {X : Nat → MH → Prop} {Q : FL → Loc → MH → Prop} {Qr : Flow → Shared → Prop} {Er : Value → Shared → Prop}
theorem tuple_go {target : Expr} {I : Addr} {o : Obj} {v : Value} {A : Around} {E : Value → Shared → Prop} {Q : Unit → Shared → Prop} (h : s.heap.get? I = some o) (ho : IterO o) (q : Q () s) : wpAny (model prog w) A (letOwnedTupleGo target (.ref I) v) Q E s := by
  have pure_ : wpAny (model prog w) A (pure () : Sem Unit) Q E s := wpAny_pure q
  refine byC fun no9 => ?_
  obtain ⟨n,vs,hc,hd,hn⟩ := ho
  refine no9 ?_
  clear no9
  have key : ∀ a : Addr,wpAny (model prog w) A (do
      let o ← load I
      match o.cls,o.data with
      | .type n,.fields vs =>
        if ["enumerate","zip","dict_itemiterator","dict_reverseitemiterator","odict_iterator","itertools.zip_longest","itertools.pairwise"].contains n && vs[0]? == some (rawInt a) then
          rule "for.unpacks-the-owned-tuple"
          updateField I 0 .none
      | _,_ => pure ()) Q E s := fun a => by
    refine wpAny_bind (wpAny_load h ?_)
    rw [hc,hd]
    dsimp only
    rw [hn]
    exact pure_
  cases target <;> first | exact pure_ | (cases v <;> first | exact pure_ | exact key _)
theorem tgt_sound {ks : Ks} {one : Bool} {e : Expr} {v : AV} {V : Value} {l' : Loc} {Q : Unit → Shared → Prop} {E : Value → Shared → Prop} (FO : FOk t) (O : Cxt.Ok K p loose mean mg mb D t) (ht : tgt t.sc ks one e = true) (hl : bindT ks one v t.l = some l')
    (S : RepS t.c w.params t.m t.Y H wd s.heap) (L : LocS w t wd) (r : wd.rep w.params [v] [V]) (h : ∀ m' Y' wd' s',Aft w ql t wd s l' H m' Y' wd' s' → Q () s') : wpAny (model prog w) t.c.A (assign e t.env V) Q E s := by
  cases one with
  | true =>
    obtain ⟨k,hk,ht⟩ := optB_some ht
    cases one1_eq hk
    exact tgt_sound1 (ql := ql) FO O ht hl S L r h
  | false =>
    obtain ⟨y,hy,ht⟩ := optB_some ht
    refine byC fun no9 => ?_
    obtain ⟨vs,rfl,hl⟩ : ∃ vs,v = .tup vs ∧ setAll ks vs t.l = some l' := by cases v <;> first | exact ⟨_,rfl,hl⟩ | exact noneX hl
    refine no9 ?_
    clear no9
    rw [tupE_eq hy]
    refine byC fun no9 => ?_
    obtain ⟨d,ws,nn,rfl,m1,r1⟩ := RepV.tu r
    obtain ⟨g1,g2⟩ := tgts_find (env := t.env) ht
    refine no9 ?_
    clear no9
    refine wpAny_assign_Tuple rfl (items := ws.toArray) ⟨_,S.allI _ m1,rfl,_,rfl⟩ ?_ g2 fun h' hx => ?_
    · rw [g1,setAll_len hl,← r1.length]; exact List.size_toArray.symm
    have st2 : Step ql t.c wd s wd { s with heap := h' } := ⟨.hp,.refl,.refl _,fun _ => rfl⟩
    exact stores_sound (ql := ql) FO O ht hl (S.keeps (tup_keep hx)) (L.step st2) r1 fun m' Y' wd' s' a => h _ _ _ _ (Aft.stp st2 a)
theorem RepS.addX {c : FrameCx} {P : Params} {m : Str → Option Value} {X : Led} {H : MH} {w : Wd} {h : Heap} {a : Addr} {o : Obj} (S : RepS c P m X H w h) (h1 : h.get? a = some o) (h2 : a ≠ c.L) (h3 : w.g.get? a = none) (off : ∀ q ∈ w.all X,q.1 ≠ a) : RepS c P m ((a,o) :: X) H w h := by
  refine ⟨S.below,S.dic,S.fr,fun q hq => ?_,S.mr,S.nd,fun e he q hq => ?_,fun q hq x hx => ?_⟩
  · have : q = (a,o) ∨ q ∈ w.all X := by
      rcases List.mem_append.mp hq with h | h
      · exact .inr (List.mem_append_left _ h)
      · rcases List.mem_append.mp h with h | h
        · exact .inr (List.mem_append_right _ (List.mem_append_left _ h))
        · rcases List.mem_cons.mp h with h | h
          · exact .inl h
          · exact .inr (List.mem_append_right _ (List.mem_append_right _ h))
    rcases this with rfl | hq
    · exact ⟨h1,h2,h3⟩
    · exact S.nw q hq
  · rcases List.mem_append.mp hq with h | h
    · exact S.sp e he q (List.mem_append_left _ h)
    · rcases List.mem_cons.mp h with rfl | h
      · exact (off e (by simp [he])).symm
      · exact S.sp e he q (List.mem_append_right _ h)
  · rcases List.mem_cons.mp hx with rfl | hx
    · exact off q (by simp [hq])
    · exact S.ap q hq x hx
theorem Aft.takeX {t' : Cxt} {l3 : Loc} {H3 : MH} {m3 : Str → Option Value} {Y3 : Led} {wd3 : Wd} {s3 : Shared} {a : Addr} {o : Obj} {Y : Led} (a3 : Aft w true (t.to t.m ((a,o) :: Y) t.l) wd s l3 H3 m3 Y3 wd3 s3) (hn : o.data ≠ .cell none) (off : ∀ q ∈ Y,q.1 ≠ a) :
    Aft w true (t.to t.m Y t.l) wd s l3 H3 m3 (Y3.filter (·.1 ≠ a)) wd3 s3 ∧ s3.heap.get? a = some o ∧ ∀ q ∈ wd3.all (Y3.filter (·.1 ≠ a)),q.1 ≠ a := by
  have hmem : (a,o) ∈ Y3 := a3.keep _ (.head _) (.inl hn)
  have hget := (a3.S.nw (a,o) (by simp [hmem])).1
  refine ⟨⟨a3.st,a3.S.subX fun q hq => (List.mem_filter.mp hq).1,⟨a3.L.len,a3.L.full,fun k x a b c => ?_⟩,fun q hq => ?_,fun q hq hd => ?_⟩,hget,fun q hq => ?_⟩
  · obtain ⟨a',o',e1,e2,e3⟩ := a3.L.empty k x a b c
    refine ⟨a',o',e1,List.mem_filter.mpr ⟨e2,?_⟩,e3⟩
    have : a' ≠ _ := fun h => by
      have := (a3.S.nw (a',o') (by simp [show (a',o') ∈ Y3 from e2])).1
      rw [h,hget] at this
      cases Option.some.inj this
      exact hn e3
    simpa using this
  · obtain ⟨h1,h2⟩ := List.mem_filter.mp hq
    rcases List.mem_cons.mp (a3.sub q h1) with rfl | h
    · simp at h2
    · exact h
  · exact List.mem_filter.mpr ⟨a3.keep q (.tail _ hq) hd,by simpa using off q hq⟩
  · rcases List.mem_append.mp hq with h | h
    · exact a3.S.ap q h _ hmem
    · rcases List.mem_append.mp h with h | h
      · exact (a3.S.sp q h _ (List.mem_append_right _ hmem)).symm
      · simpa using (List.mem_filter.mp h).2
inductive LoopInv (w : World) (t : Cxt) (wd1 : Wd) (s0 : Shared) (n : Nat) (F : Nat → Loc → MH → Prop) (St : Nat → Heap → Prop) (Off : Addr → Prop) (k : Nat) (s' : Shared) : Prop
  | mk (i : Nat) (l' : Loc) (H' : MH) (m' : Str → Option Value) (Y' : Led) (wd' : Wd) (hi : i ≤ n) (hk : k = n - i) (f : F i l' H') (a : Aft w true t wd1 s0 l' H' m' Y' wd' s') (st : St i s'.heap) (off : ∀ q ∈ wd'.all Y',Off q.1)
theorem s_for {f : EF} {gq : SF} {n n2 : Nat} {ks : Ks} {one : Bool} {it : IE} {it' tg : Expr} {b : List IS} {b' : List Stmt} {pos : Pos} (hf : ESound prog w K p loose mean mg mb ql D f) (hg : SSound prog w K p loose mean mg mb true D gq) (FO : FOk t) (O : Cxt.Ok K p loose mean mg mb D t)
    (hlp : t.sc.loops = true) (ht : tgt t.sc ks one tg = true) (hi : chkE n t.sc it it' = true) (hns : notSet it' = true) (hb : chkS n2 t.sc b b' = true)
    (S : RepS t.c w.params t.m t.Y H wd s.heap) (L : LocS w t wd) (q : f it t.l H (fun v H1 => optP (itemsOf v) fun vs => forI gq ks one b X vs t.l H1 Q) X) (hp : t.sc.loops = true → PassesOwn (model prog w) t.c.A t.env Er) (hQ : XQ w ql t wd s Q Qr) (hX : XS w ql t wd s X Er) :
    wpAny (model prog w) t.c.A (exec (.For tg it' b' [] pos) t.env) Qr Er s := by
  refine wpAny_For ?_ (set_of hns)
  refine hf n it it' t hi O H wd s _ X S (L.ok FO O) q _ _ (fun v H1 wd1 s1 V q1 st1 S1 r1 => ?_) hX.ex
  refine byC fun no9 => ?_
  obtain ⟨vs,hvs,q2⟩ := optP_some q1
  refine no9 ?_
  clear no9
  refine iter_src rfl hvs r1 S1.allI fun itv s2 src => ?_
  obtain ⟨fp,P,St,o,W,hIo,hSt,st0,hfp,hP⟩ := src
  have up : ∀ b o',s1.heap.get? b = some o' → (s1.heap.push o).get? b = some o' := fun b o' e => Heap.get?_push_of_some _ e
  have S2 : RepS t.c w.params t.m t.Y H1 wd1 (s1.heap.push o) := S1.keeps up
  have hIL : s1.heap.objs.size ≠ t.c.L := Nat.ne_of_gt S1.fr.ns.lt
  have hI0 : wd1.g.get? s1.heap.objs.size = none := next_is_new S1.fr
  have hQ1 := hQ.st (st1.trans (.mk' : Step ql t.c wd1 s1 wd1 { s1 with heap := s1.heap.push o,toks := s1.toks }))
  have hX1 := hX.st (st1.trans (.mk' : Step ql t.c wd1 s1 wd1 { s1 with heap := s1.heap.push o,toks := s1.toks }))
  have L2 : LocS w t wd1 := L.step st1
  clear hQ hX L S
  refine codeAny_forLoop_any (R := fun r s' => match r with | .ok f => Qr f s' | .error e => cameBackBy (model prog w) t.c.A t.env Er e s')
    (LoopInv w t wd1 { s1 with heap := s1.heap.push o } vs.length (fun i l' H' => forI gq ks one b X (vs.drop i) l' H' Q) St fun a => a ≠ s1.heap.objs.size) ?_ vs.length
    ⟨0,t.l,H1,t.m,t.Y,wd1,Nat.zero_le _,rfl,q2,Aft.here S2 L2 (.refl ..),st0,S1.up⟩
  rintro k s' ⟨i,l',H',m',Y',wd',hil,rfl,qf,aft,sti,off⟩
  have hg' : wd'.g = wd1.g := aft.st.still rfl
  refine byC fun no9 => ?_
  by_cases hlt : i < vs.length
  · refine no9 ?_
    clear no9
    refine W.item i _ _ _ hlt sti fun V' h1 tk1 hPv st1' k1 => ?_
    refine byC fun no9 => ?_
    obtain ⟨u,hu,ru⟩ := hP i V' hPv
    rw [List.drop_eq_getElem_cons hlt,(List.getElem?_eq_some_iff.mp hu).2] at qf
    obtain ⟨l1,hl1,qb⟩ := optP_some (show optP (bindT ks one u l') _ from qf)
    obtain ⟨oI,hoI,hiter⟩ := hIo _ _ st1'
    refine no9 ?_
    clear no9
    have k1' : ∀ q ∈ wd'.all Y',h1.get? q.1 = some q.2 := fun q hq => k1 _ _ (by simpa using off q hq) (aft.S.nw q hq).1
    have F1 : Fr wd'.g t.c.L h1 m' := ⟨aft.S.fr.ns.at' fun o e => k1 _ o (by simpa using hIL.symm) e,fun b o e => k1 b o (by
      intro hm; rw [List.mem_singleton.mp hm,hg',hI0] at e; exact noneX e) (aft.S.fr.keep b o e),aft.S.fr.above⟩
    have Sa : RepS t.c w.params m' Y' H' wd' h1 := ⟨aft.S.below,aft.S.dic,F1,fun q hq => ⟨k1' q hq,(aft.S.nw q hq).2⟩,aft.S.mr,aft.S.nd,aft.S.sp,aft.S.ap⟩
    have S1' := Sa.addX hoI hIL (hg' ▸ hI0) off
    have L1 : LocS w (t.to m' ((s1.heap.objs.size,oI) :: Y') l') wd' := ⟨aft.L.len,aft.L.full,fun k x a b c => by obtain ⟨a',o',e1,e2,e3⟩ := aft.L.empty k x a b c; exact ⟨a',o',e1,.tail _ e2,e3⟩⟩
    refine tuple_go hoI hiter ?_
    have ru' : wd'.rep w.params [u] [V'] := ru.step aft.st
    refine tgt_sound (ql := true) (t := t.to m' ((s1.heap.objs.size,oI) :: Y') l') (FO.to) (O.to) ht hl1 S1' L1 ru' fun m2 Y2 wd2 s2 a2 => ?_
    have stA : Step true t.c wd1 { s1 with heap := s1.heap.push o } wd' { s' with heap := h1,toks := tk1 } := aft.st.trans .mk'
    refine wpAny_passesOwn (hp hlp) ?_
    refine hg n2 b b' (t.to m2 Y2 l1) hb O.to FO.to H' wd2 s2 _ X a2.S a2.L qb _ Er hp (fun fl fV l3 H3 m3 Y3 wd3 s3 q3 a3 hfl => ?_) (fun cl H3 m3 Y3 wd3 s3 e x st3 rc kk => hX1 cl H3 m3 Y3 wd3 s3 e x ((stA.trans (a2.st.trans st3)).weak) rc fun q hq hd => kk q (a2.keep q (.tail _ (aft.keep q hq hd)) hd) hd)
    refine byC fun no9 => ?_
    obtain ⟨nn,vvs,hcI,hdI,hnI⟩ := hiter
    obtain ⟨c1,b2,b3⟩ := Aft.takeX (t := t.to m' Y' l') (t' := t) (Y := Y') (a2.trans a3) (fun h => by rw [hdI] at h; exact Data.noConfusion h) (fun q hq => off q (List.mem_append_right _ (List.mem_append_right _ hq)))
    refine no9 ?_
    clear no9
    have b1 : Aft w true t wd1 { s1 with heap := s1.heap.push o } l3 H3 m3 (Y3.filter (·.1 ≠ s1.heap.objs.size)) wd3 s3 :=
      ⟨stA.trans c1.st,c1.S,c1.L,fun q hq => aft.sub q (c1.sub q hq),fun q hq hd => c1.keep q (aft.keep q hq hd) hd⟩
    have stn : St (i + 1) s3.heap := hSt _ _ _ _ st1' hoI b2 fun q hq nt => b1.S.allI q (b1.st.ext.sub q hq nt)
    have nxt := fun q => (⟨_,Nat.sub_lt_sub_left hlt (Nat.lt_succ_self i),⟨i + 1,l3,H3,m3,_,wd3,hlt,rfl,q,b1,stn,b3⟩⟩ : ∃ m,m < vs.length - i ∧ LoopInv w t wd1 { s1 with heap := s1.heap.push o } vs.length (fun i l' H' => forI gq ks one b X (vs.drop i) l' H' Q) St (fun a => a ≠ s1.heap.objs.size) m s3)
    cases fl with
    | next => cases flr_n hfl; exact nxt q3
    | cont => cases flr_c hfl; exact nxt q3
    | brk => cases flr_b hfl; exact hQ1 .next .next _ _ _ _ _ _ q3 b1.weak (by trivial)
    | ret r => obtain ⟨V9,rfl,hfl⟩ := flr_r hfl; exact hQ1 (.ret r) (.ret _) _ _ _ _ _ _ q3 b1.weak hfl
  · refine no9 ?_
    clear no9
    obtain rfl : i = vs.length := Nat.le_antisymm hil (Nat.not_lt.mp hlt)
    rw [List.drop_length] at qf
    refine W.done _ _ _ sti fun h1 tk1 k1 => ?_
    refine wpAny_execs_nil ?_
    have F1 : Fr wd'.g t.c.L h1 m' := ⟨aft.S.fr.ns.at' fun o e => k1 _ o (by simpa using hIL.symm) e,fun b o e => k1 b o (by
      intro hm; rw [List.mem_singleton.mp hm,hg',hI0] at e; exact noneX e) (aft.S.fr.keep b o e),aft.S.fr.above⟩
    have a1 : Aft w true t wd1 { s1 with heap := s1.heap.push o } l' H' m' Y' wd' { s' with heap := h1,toks := tk1 } :=
      ⟨aft.st.trans .mk',⟨aft.S.below,aft.S.dic,F1,fun q hq => ⟨k1 _ _ (by simpa using off q hq) (aft.S.nw q hq).1,(aft.S.nw q hq).2⟩,aft.S.mr,aft.S.nd,aft.S.sp,aft.S.ap⟩,aft.L,aft.sub,aft.keep⟩
    exact hQ1 .next .next _ _ _ _ _ _ qf a1.weak (by trivial)
end
theorem enumL_len : ∀ (k : Nat) (vs : List AV),(enumL k vs).length = vs.length
  | _,[] => rfl
  | k,v :: r => by show (enumL (k + 1) r).length + 1 = r.length + 1; rw [enumL_len]
theorem enumL_drop : ∀ (i k : Nat) (vs : List AV),i < vs.length → (enumL k vs).drop i = .tup [.int ((k + i : Nat) : Int),vs.getD i .none] :: (enumL k vs).drop (i + 1)
  | 0,k,v :: r,_ => rfl
  | i + 1,k,v :: r,h => by
    show (enumL (k + 1) r).drop i = _ :: (enumL (k + 1) r).drop (i + 1)
    rw [enumL_drop i (k + 1) r (by simpa using h)]
    rw [show k + 1 + i = k + (i + 1) by lia]
    rfl
section
variable {ql : Bool} {prog : Program} {w : World} {K : Frag} {p : Program} {loose : List Str} {mean : ExcName → Option Value} {mg mb : Str → Option Value} {D : Nat}
  {t : Cxt} {H : MH} {wd : Wd} {s : Shared} {X : Nat → MH → Prop} {Q : FL → Loc → MH → Prop} {Qr : Flow → Shared → Prop} {Er : Value → Shared → Prop}
theorem e_globE {z : Str} {ps : Pos} {Qr Er : Value → Shared → Prop} (KO : KOk K) (O : Cxt.Ok K p loose mean mg mb D t) (S : RepS t.c w.params t.m t.Y H wd s.heap) (hz : z = "enumerate") (hx : t.sc.glob z = true) (h : Qr (.type "enumerate") s) :
    wpAny (model prog w) t.c.A (eval (.Name z ps) t.env) Qr Er s := by
  subst hz
  obtain ⟨h1,h2⟩ := KO.enm
  have T := topRead_of (O.top S)
  refine Name_function_global O.fn (O.kd _ (glob_of hx).1) ?_ (nodebug (glob_of hx).2)
  refine loadGlobal_builtin (mg := mg) (mb := mb) ?_ ?_ ?_ ?_ h
  · rw [O.gl]; exact T.g.keeps S.fr.keep
  · exact mg_none_of (O.kin S) T.g h1
  · rw [O.bi]; exact T.b.keeps S.fr.keep
  · exact (T.builtins _ (by decide +kernel)).trans h2
theorem s_forE {f : EF} {gq : SF} {n n2 ki kv k : Nat} {it : IE} {it' : Expr} {b : List IS} {b' : List Stmt} {pos px py q' zp p2 : Pos} {x y z : Str} (KO : KOk K) (hf : ESound prog w K p loose mean mg mb ql D f) (hg : SSound prog w K p loose mean mg mb true D gq) (FO : FOk t) (O : Cxt.Ok K p loose mean mg mb D t)
    (hlp : t.sc.loops = true) (ht : tgts t.sc [(ki,false),(kv,false)] [.Name x px,.Name y py] = true) (hz : z = "enumerate") (hzg : t.sc.glob z = true) (hi : chkE n t.sc it it' = true) (hb : chkS n2 t.sc b b' = true)
    (S : RepS t.c w.params t.m t.Y H wd s.heap) (L : LocS w t wd) {fq : EF} {g : SF} (q : stepI ql fq gq f g (.forE ki kv it b) t.l H Q X) (hp : t.sc.loops = true → PassesOwn (model prog w) t.c.A t.env Er) (hQ : XQ w ql t wd s Q Qr) (hX : XS w ql t wd s X Er) :
    wpAny (model prog w) t.c.A (exec (.For (.Tuple [.Name x px,.Name y py] k q') (.Call (.Name z zp) [it'] [] p2) b' [] pos) t.env) Qr Er s := by
  refine wpAny_For ?_ (fun _ => rfl)
  refine Call_ (e_globE KO O S hz hzg ?_)
  refine PyProof.Rows.callWith_type1 ?_ (chk_star hi) rfl
  refine args_cons ?_ (chk_star hi)
  refine hf n it it' t hi O H wd s _ X S (L.ok FO O) q _ _ (fun v H1 wd1 s1 V q1 st1 S1 r1 => ?_) hX.ex
  refine byC fun no9 => ?_
  obtain ⟨vs,rfl,q1⟩ : ∃ vs,v = .lst vs ∧ forI gq [(ki,false),(kv,false)] false b X (enumL 0 vs) t.l H1 Q := by cases v <;> first | exact ⟨_,rfl,q1⟩ | exact False.elim q1
  refine no9 ?_
  clear no9
  refine args_nil ?_
  refine byC fun no9 => ?_
  obtain ⟨l,ws,nn,rfl,ml,rl⟩ := RepV.ls r1
  refine no9 ?_
  clear no9
  have hlL : s1.heap.IsList l ws.toArray := ⟨_,S1.allI _ ml,rfl,_,rfl⟩
  refine call_enumerate_list hlL fun h2 hE hI hsz kp => ?_
  have hlt : l < s1.heap.objs.size := Heap.lt_size (S1.allI _ ml)
  obtain ⟨itA,hit⟩ : ∃ n : Nat,n = s1.heap.objs.size := ⟨_,rfl⟩
  rw [← hit] at hlt hE hI hsz ⊢
  have W := WalksT.enumerate (prog := prog) (w := w) (A := t.c.A) rfl (itA + 1) itA l (Nat.succ_ne_self itA) (Nat.ne_of_lt (Nat.lt_succ_of_lt hlt)) (Nat.ne_of_lt hlt) ws.toArray
  have hwl : ws.toArray.size = vs.length := by rw [← rl.length]; exact List.size_toArray
  simp only [hwl] at W
  have hl0 : h2.IsList l ws.toArray := hlL.at fun o e => kp _ o e
  refine W.self 0 _ _ _ ⟨⟨_,hE⟩,hI,hl0⟩ ?_
  have S2 : RepS t.c w.params t.m t.Y H1 wd1 h2 := S1.keeps kp
  have up1 : ∀ q ∈ wd1.all t.Y,q.1 ≠ itA ∧ q.1 ≠ itA + 1 := fun q hq => by
    have := Heap.lt_size (S1.nw q hq).1
    rw [← hit] at this
    exact ⟨Nat.ne_of_lt this,Nat.ne_of_lt (Nat.lt_succ_of_lt this)⟩
  have hLlt : t.c.L < itA := by rw [hit]; exact S1.fr.ns.lt
  have hg0 : ∀ b,itA ≤ b → wd1.g.get? b = none := fun b hb => Heap.get?_none_of_le (Nat.le_trans S1.fr.above (Nat.le_trans (Nat.le_of_lt hLlt) hb))
  have stx : Step ql t.c wd1 s1 wd1 { s1 with heap := h2 } := ⟨.hp,.refl,.refl _,fun _ => rfl⟩
  have hQ1 := hQ.st (st1.trans stx)
  have hX1 := hX.st (st1.trans stx)
  have L2 : LocS w t wd1 := L.step st1
  clear hQ hX L S
  refine codeAny_forLoop_any (R := fun r s' => match r with | .ok f => Qr f s' | .error e => cameBackBy (model prog w) t.c.A t.env Er e s')
    (LoopInv w t wd1 { s1 with heap := h2 } vs.length (fun i l' H' => forI gq [(ki,false),(kv,false)] false b X ((enumL 0 vs).drop i) l' H' Q) (fun i h => (∃ old,IsEnum h (itA + 1) itA i old) ∧ h.IsListIter itA l i ∧ h.IsList l ws.toArray) fun a => a ≠ itA ∧ a ≠ itA + 1) ?_ vs.length
    ⟨0,t.l,H1,t.m,t.Y,wd1,Nat.zero_le _,rfl,q1,Aft.here S2 L2 (.refl ..),⟨⟨_,hE⟩,hI,hl0⟩,up1⟩
  rintro k s' ⟨i,l',H',m',Y',wd',hil,rfl,qf,aft,sti,off⟩
  have hg' : wd'.g = wd1.g := aft.st.still rfl
  have notM : ∀ {b : Addr},b ≠ itA → b ≠ itA + 1 → b ∉ [itA + 1,itA] := fun h1 h2 hm => by
    rcases List.mem_cons.mp hm with h | h
    · exact h2 h
    · exact h1 (List.mem_singleton.mp h)
  have fr1 : ∀ {h1 : Heap},(∀ b o,b ∉ [itA + 1,itA] → s'.heap.get? b = some o → h1.get? b = some o) → Fr wd'.g t.c.L h1 m' := fun k1 => ⟨aft.S.fr.ns.at' fun o e => k1 _ o (notM (Nat.ne_of_lt hLlt) (Nat.ne_of_lt (Nat.lt_succ_of_lt hLlt))) e,fun b o e => k1 b o (by
      intro hm
      have : itA ≤ b := by
        rcases List.mem_cons.mp hm with h | h
        · exact h ▸ Nat.le_succ _
        · exact List.mem_singleton.mp h ▸ Nat.le_refl _
      rw [hg',hg0 b this] at e; exact noneX e) (aft.S.fr.keep b o e),aft.S.fr.above⟩
  have nw1 : ∀ {h1 : Heap},(∀ b o,b ∉ [itA + 1,itA] → s'.heap.get? b = some o → h1.get? b = some o) → ∀ q ∈ wd'.all Y',h1.get? q.1 = some q.2 := fun k1 q hq => k1 _ _ (notM (off q hq).1 (off q hq).2) (aft.S.nw q hq).1
  refine byC fun no9 => ?_
  by_cases hlt' : i < vs.length
  · refine no9 ?_
    clear no9
    refine W.item i _ _ _ hlt' sti fun T vals h1 tk1 hPv hTge hT hMid k1 => ?_
    refine byC fun no9 => ?_
    obtain ⟨tk0,V,hV,rfl⟩ := hPv
    rw [enumL_drop i 0 vs hlt'] at qf
    obtain ⟨l1,hl1,qb⟩ := optP_some (show optP (bindT [(ki,false),(kv,false)] false (.tup [.int ((0 + i : Nat) : Int),vs.getD i .none]) l') _ from qf)
    refine no9 ?_
    clear no9
    have hTn : T ≠ itA + 1 ∧ T ≠ itA := ⟨fun h => hMid.2.2.2.1 h,fun h => hMid.2.2.2.2 h⟩
    refine W.go _ _ _ i T _ _ _ hMid fun h1b st1b k1b => ?_
    have k2 : ∀ b o,b ∉ [itA + 1,itA] → s'.heap.get? b = some o → h1b.get? b = some o := fun b o nb e => k1b b o nb (k1 b o nb e)
    have hTb : h1b.IsTuple T #[.int i tk0,V] := hT.at fun o e => k1b T o (notM hTn.2 hTn.1) e
    have sT : ∃ oe oi,h1b.get? (itA + 1) = some oe ∧ h1b.get? itA = some oi ∧ oe.data ≠ .cell none ∧ oi.data ≠ .cell none ∧
        ∀ h3 : Heap,h3.get? (itA + 1) = some oe → h3.get? itA = some oi → h3.IsList l ws.toArray → ((∃ old,IsEnum h3 (itA + 1) itA ((i + 1 : Nat) : Int) old) ∧ h3.IsListIter itA l (i + 1) ∧ h3.IsList l ws.toArray) := by
      refine byC fun no9 => ?_
      obtain ⟨⟨old,e1⟩,e2,e3⟩ := st1b
      obtain ⟨oi,f1,f2,f3⟩ := id e2
      refine no9 ?_
      clear no9
      refine ⟨_,oi,e1,f1,(fun h => nomatch h),(fun h => by rw [f3] at h; cases h),fun h3 g1 g2 g3 => ⟨⟨old,g1⟩,e2.at fun o e => ?_,g3⟩⟩
      rw [f1] at e; cases Option.some.inj e; exact g2
    refine byC fun no9 => ?_
    obtain ⟨oe,oi,g1,g2,g3,g4,g5⟩ := sT
    have S1' : RepS t.c w.params m' ((itA + 1,oe) :: (itA,oi) :: Y') H' wd' h1b := by
      have Sa : RepS t.c w.params m' Y' H' wd' h1b := ⟨aft.S.below,aft.S.dic,fr1 k2,fun q hq => ⟨nw1 k2 q hq,(aft.S.nw q hq).2⟩,aft.S.mr,aft.S.nd,aft.S.sp,aft.S.ap⟩
      have Sb := Sa.addX g2 (Nat.ne_of_gt hLlt) (hg' ▸ hg0 itA (Nat.le_refl _)) (fun q hq => (off q hq).1)
      refine Sb.addX g1 (Nat.ne_of_gt (Nat.lt_succ_of_lt hLlt)) (hg' ▸ hg0 (itA + 1) (Nat.le_succ _)) (fun q hq => ?_)
      simp only [Wd.all,List.mem_append,List.mem_cons] at hq
      rcases hq with h | h | h | h
      · exact (off q (by simp [h])).2
      · exact (off q (by simp [h])).2
      · subst h; exact Nat.ne_of_lt (Nat.lt_succ_self itA)
      · exact (off q (by simp [h])).2
    let t1 : Cxt := t.to m' Y' l'
    have L1 : LocS w (t1.to t1.m ((itA + 1,oe) :: (itA,oi) :: Y') t1.l) wd' := ⟨aft.L.len,aft.L.full,fun k x a b c => by obtain ⟨a',o',e1,e2,e3⟩ := aft.L.empty k x a b c; exact ⟨a',o',e1,.tail _ (.tail _ e2),e3⟩⟩
    obtain ⟨v1,hv1,rV0⟩ := rl.getV (by simpa using hV)
    have rV : wd'.rep w.params [v1] [V] := Rs.step rV0 aft.st
    have hgd : vs.getD i .none = v1 := by rw [List.getD_eq_getElem?_getD,hv1]; rfl
    rw [hgd] at hl1
    obtain ⟨j1,j2⟩ := tgts_find (env := t.env) ht
    refine no9 ?_
    clear no9
    refine wpAny_assign_Tuple rfl (items := #[.int i tk0,V]) hTb (by rw [j1]; rfl) j2 fun h4 hx4 => ?_
    have S4 : RepS t.c w.params m' ((itA + 1,oe) :: (itA,oi) :: Y') H' wd' h4 := RepS.keeps (t := t1.to t1.m ((itA + 1,oe) :: (itA,oi) :: Y') t1.l) S1' (tup_keep hx4)
    have st4 : Step true t.c wd1 { s1 with heap := h2 } wd' { s' with heap := h4,toks := tk1 } := aft.st.trans .mk'
    refine stores_sound (ql := true) (t := t1.to t1.m ((itA + 1,oe) :: (itA,oi) :: Y') t1.l) (wd := wd') (s := { s' with heap := h4,toks := tk1 }) FO.to O.to ht (show setAll [(ki,false),(kv,false)] [.int ((0 + i : Nat) : Int),v1] l' = some l1 from hl1) S4 L1 (Rs.cons (by rw [Nat.zero_add]; exact .int _ _ .nil) rV) fun m2 Y2 wd2 s2 a2 => ?_
    refine wpAny_passesOwn (hp hlp) ?_
    refine hg n2 b b' (t.to m2 Y2 l1) hb O.to FO.to H' wd2 s2 _ X a2.S a2.L qb _ Er hp (fun fl fV l3 H3 m3 Y3 wd3 s3 q3 a3 hfl => ?_) (fun cl H3 m3 Y3 wd3 s3 e x st3 rc kk => hX1 cl H3 m3 Y3 wd3 s3 e x ((st4.trans (a2.st.trans st3)).weak) rc fun q hq hd => kk q (a2.keep q (.tail _ (.tail _ (aft.keep q hq hd))) hd) hd)
    obtain ⟨b1,b2,b3⟩ := Aft.takeX (t := t1) (t' := t) (Y := (itA,oi) :: Y') (a2.trans a3) g3 (fun q hq => by
      rcases List.mem_cons.mp hq with rfl | hq
      · exact Nat.ne_of_lt (Nat.lt_succ_self itA)
      · exact (off q (by simp [hq])).2)
    refine byC fun no9 => ?_
    obtain ⟨c1,c2,c3⟩ := Aft.takeX (t := t1) (t' := t) (Y := Y') b1 g4 (fun q hq => (off q (by simp [hq])).1)
    refine no9 ?_
    clear no9
    have d1 : Aft w true t wd1 { s1 with heap := h2 } l3 H3 m3 ((Y3.filter (·.1 ≠ itA + 1)).filter (·.1 ≠ itA)) wd3 s3 :=
      ⟨st4.trans c1.st,c1.S,c1.L,fun q hq => aft.sub q (c1.sub q hq),fun q hq hd => c1.keep q (aft.keep q hq hd) hd⟩
    have off3 : ∀ q ∈ wd3.all ((Y3.filter (·.1 ≠ itA + 1)).filter (·.1 ≠ itA)),q.1 ≠ itA ∧ q.1 ≠ itA + 1 := fun q hq => by
      refine ⟨c3 q hq,b3 q ?_⟩
      simp only [Wd.all,List.mem_append] at hq ⊢
      rcases hq with h | h | h
      · exact .inl h
      · exact .inr (.inl h)
      · exact .inr (.inr (List.mem_filter.mp h).1)
    have stn := g5 s3.heap b2 c2 ⟨_,d1.S.allI _ (d1.st.ext.sub _ ml (Tb.cl fun h => nomatch h)),rfl,_,rfl⟩
    have nxt := fun q => (⟨_,Nat.sub_lt_sub_left hlt' (Nat.lt_succ_self i),⟨i + 1,l3,H3,m3,_,wd3,hlt',rfl,q,d1,stn,off3⟩⟩ : ∃ m,m < vs.length - i ∧ LoopInv w t wd1 { s1 with heap := h2 } vs.length (fun i l' H' => forI gq [(ki,false),(kv,false)] false b X ((enumL 0 vs).drop i) l' H' Q) (fun i h => (∃ old,IsEnum h (itA + 1) itA i old) ∧ h.IsListIter itA l i ∧ h.IsList l ws.toArray) (fun a => a ≠ itA ∧ a ≠ itA + 1) m s3)
    cases fl with
    | next => cases flr_n hfl; exact nxt q3
    | cont => cases flr_c hfl; exact nxt q3
    | brk => cases flr_b hfl; exact hQ1 .next .next _ _ _ _ _ _ q3 d1.weak (by trivial)
    | ret r => obtain ⟨V9,rfl,hfl⟩ := flr_r hfl; exact hQ1 (.ret r) (.ret _) _ _ _ _ _ _ q3 d1.weak hfl
  · refine no9 ?_
    clear no9
    obtain rfl : i = vs.length := Nat.le_antisymm hil (Nat.not_lt.mp hlt')
    rw [List.drop_of_length_le (by rw [enumL_len]; exact Nat.le_refl _)] at qf
    refine W.done _ _ _ sti fun h1 tk1 k1 => ?_
    refine wpAny_execs_nil ?_
    have a1 : Aft w true t wd1 { s1 with heap := h2 } l' H' m' Y' wd' { s' with heap := h1,toks := tk1 } :=
      ⟨aft.st.trans .mk',⟨aft.S.below,aft.S.dic,fr1 k1,fun q hq => ⟨nw1 k1 q hq,(aft.S.nw q hq).2⟩,aft.S.mr,aft.S.nd,aft.S.sp,aft.S.ap⟩,aft.L,aft.sub,aft.keep⟩
    exact hQ1 .next .next _ _ _ _ _ _ qf a1.weak (by trivial)
end
end Mine.Internal
section
open PySem PySem.W PySem.Calls PyProof.Rows Builtin.ObjectAttr
namespace Mine.Internal
noncomputable abbrev bmX : List Value := [.ref 46,.type "Exception",.type "BaseException",.type "object"]
noncomputable def xcCd (C : Addr) : Data → Bool
  | .cls cd => cd.mro == .ref C :: bmX && !cd.hasDel && cd.hasDict
  | _ => false
noncomputable def xcSl (l : List (Option Value)) : Bool := l.length == 6 && l[4]? == some (some (.builtin "Exception.__new__"))
noncomputable def xcOb (C : Addr) (o : Obj) : Bool := o.cls == .type "type" && xcCd C o.data && xcSl o.slots.toList
noncomputable def xcIn (K : Frag) (C : Addr) : Bool := optB (K.lookup C) (xcOb C)
theorem xcSl_is {l : Array (Option Value)} (h : xcSl l.toList = true) : ∃ k0 k1 k2 k3 k5,l = #[k0,k1,k2,k3,some (.builtin "Exception.__new__"),k5] := by
  obtain ⟨l⟩ := l
  have h := and2 h
  rcases l with _ | ⟨k0,_ | ⟨k1,_ | ⟨k2,_ | ⟨k3,_ | ⟨k4,_ | ⟨k5,_ | ⟨k6,l⟩⟩⟩⟩⟩⟩⟩ <;> first | exact falseX h.1 | skip
  have e : k4 = _ := Option.some.inj (beq_iff_eq.mp h.2)
  exact ⟨k0,k1,k2,k3,k5,by rw [e]⟩
noncomputable abbrev xcObj (nm q : Str) (C N : Addr) (bs : List Value) (sn : List Str) (sub : List Value) (ab : Bool) (col : Option Bool) (dd : Option Addr) (k0 k1 k2 k3 k5 : Option Value) : Obj := excClassObj nm q C N bs bmX true sn sub ab col dd k0 k1 k2 k3 k5 "Exception.__new__"
inductive XcAt (h : Heap) (C : Addr) : Prop
  | mk (nm qn N bs sn sub ab col dd k0 k1 k2 k3 k5) (hC : h.get? C = some (xcObj nm qn C N bs sn sub ab col dd k0 k1 k2 k3 k5))
theorem xc_cls {K : Frag} {h : Heap} {C : Addr} (X : K.In h) (q : xcIn K C = true) : XcAt h C := by
  obtain ⟨⟨cls,dd,data,sl⟩,ho,q⟩ := optB_some q
  have q : (cls == .type "type" && xcCd C data && xcSl sl.toList) = true := q
  have q1 := and3 q
  clear q
  have hc : cls = _ := beq_iff_eq.mp q1.1
  obtain ⟨k0,k1,k2,k3,k5,hs⟩ := xcSl_is q1.2.2
  have q2 := q1.2.1
  clear q1
  cases data <;> first | exact falseX q2 | skip
  rename_i cd
  have q3 := and3 q2
  clear q2
  obtain ⟨nm,bs,mro,ns,qn,hd,sn,sub,ab,col,del⟩ := cd
  have h1 : mro = _ := beq_iff_eq.mp q3.1
  have h2 : del = _ := not_f q3.2.1
  have h3 : hd = _ := q3.2.2
  clear q3
  subst hc hs h1 h2 h3
  exact ⟨nm,qn,ns,bs,sn,sub,ab,col,dd,k0,k1,k2,k3,k5,X _ _ ho⟩
theorem bmX_E : bmX.contains (.type "Exception") = true := by decide +kernel
theorem bmX_A : bmX.contains (.type "AttributeError") = false := by decide +kernel
theorem bmX_N : bmX.contains (.type "NameError") = false := by decide +kernel
theorem bmX_B : bmX.contains (.type "BaseException") = true := by decide +kernel
section
variable {prog : Program} {w : World} {A : Around} {E : Value → Shared → Prop} {h : Heap} {g : Array GenState} {d : Drawn} {t : Nat} {os : OsState}
variable {nm q : Str} {C N : Addr} {bs : List Value} {sn : List Str} {sub : List Value} {ab : Bool} {col : Option Bool} {dd : Option Addr} {k0 k1 k2 k3 k5 : Option Value}
theorem freed_with {o : Obj} {d : Option Addr} (hf : o.isFreed = false) : ({ cls := o.cls,dict := d,data := o.data,slots := o.slots } : Obj).isFreed = false := by
  obtain ⟨oc,od,odt,osl⟩ := o
  cases odt <;> first | rfl | exact hf
theorem xc_check {rest : List Value} {Q : Unit → Shared → Prop} (hC : h.get? C = some (xcObj nm q C N bs sn sub ab col dd k0 k1 k2 k3 k5))
    (hq : Q () ⟨h,g,d,t,os⟩) : wpAny (model prog w) A (checkBuiltinCall "Exception.__new__" ⟨.ref C :: rest,[]⟩) Q E ⟨h,g,d,t,os⟩ := by
  have F := F.excBase_Exception
  have hcont : (Value.ref C :: bmX).contains (.type "Exception") = true := by rw [List.contains_cons,bmX_E,Bool.or_true]
  have hstar := F.noStar
  unfold checkBuiltinCall
  rw [F.newKind,F.newSplit]
  dsimp only
  repeat (first | refine wpAny_loadPart_at hC ?_ | (refine wpAny_isSubtype_exc hC ?_; rw [hcont]) | refine wpAny_staticBase_exc hC ?_ | refine wpAny_madeBy_exc hC ?_ | simp only [bne_self_eq_false,Bool.false_eq_true,if_false] | wp_step)
  exact hq
theorem xc_code {R : Result → Shared → Prop} {rest : List Value} (hC : h.get? C = some (xcObj nm q C N bs sn sub ab col dd k0 k1 k2 k3 k5))
    (hq : R (.ok (.ret (.ref (h.objs.size + 1)))) ⟨(h.push { cls := .type "tuple",data := .seq rest.toArray }).push { cls := .ref C,data := .fields #[.ref h.objs.size,.none,.none,.none,.bool false,.none] },g,d,t,os⟩) (hrest : rest.length ≤ sizeLine) :
    codeAny (model prog w) A (.builtin "Exception.__new__" ⟨.ref C :: rest,[]⟩) R ⟨h,g,d,t,os⟩ := by
  have F := F.excBase_Exception
  have hends := F.ends
  have hcB : (Value.ref C :: bmX).contains (.type "Exception") = true := by rw [List.contains_cons,bmX_E,Bool.or_true]
  have hcA : (Value.ref C :: bmX).contains (.type "AttributeError") = false := by rw [List.contains_cons,bmX_A]; rfl
  have hcN : (Value.ref C :: bmX).contains (.type "NameError") = false := by rw [List.contains_cons,bmX_N]; rfl
  refine codeAny_builtinAt F.entry ?_
  unfold Builtin.«BaseException.__new__»
  refine PySem.wpAt_bind ?_
  show PySem.wpAt _ _ _ (stack >>= _) _ _ _
  refine PySem.wpAt_bind (PySem.wpAt_stack fun p below => PySem.wpAt_of_wpAny ?_)
  wp_walk
  refine PySem.wpAt_of_wpAny ?_
  rw [F.owner]
  repeat (first | with_reducible refine wpAny_madeHere_exc F.canon hC ?_ | with_reducible refine wpAny_loadPart_at hC ?_ | (with_reducible refine wpAny_isSubtype_exc hC ?_; first | rw [hcB] | rw [hcA] | rw [hcN]) | wp_step)
  show R _ _
  rw [Heap.size_push]
  exact hq
theorem xc_type_call {K : Frag} (X : K.In h) {rest : List Value} {fI : Addr} {Q : Fin → Shared → Prop}
    (hC : h.get? C = some (xcObj nm q C N bs sn sub ab col dd k0 k1 k2 k3 k5)) (hi : findIn K (.ref C) "__init__" = some (some (.ref fI))) (hf : typeIn K (.ref fI) = some (.type "function")) (hrest : rest.length ≤ sizeLine)
    (hq : ∀ h' e t₀,(∀ b o,h.get? b = some o → h'.get? b = some o) → h.get? e = none → h.get? t₀ = none → t₀ < e → h'.get? e = some { cls := .ref C,data := .fields #[.ref t₀,.none,.none,.none,.bool false,.none] } → h'.get? t₀ = some { cls := .type "tuple",data := .seq rest.toArray } →
      wpAny (model prog w) A (call (.ref fI) (.ref e :: rest)) (fun r s' => r = .none ∧ Q (.done (.ret (.ref e))) s') E ⟨h',g,d,t,os⟩) :
    wpAny (model prog w) A (Builtin.«type.__call__» ⟨.ref C :: rest,[]⟩) Q E ⟨h,g,d,t,os⟩ := by
  have F := F.excBase_Exception
  repeat (first | with_reducible refine wpAny_loadPart_at hC ?_ | with_reducible refine wpAny_madeBy_exc hC ?_ | wp_step)
  refine codeAny_call_builtin_code (Code.quiet_builtin _ F.quiet) (xc_check hC ?_)
  refine xc_code hC ?_ hrest
  show wpAny _ _ _ _ _ _
  have hk : ∀ b o,h.get? b = some o → ((h.push { cls := .type "tuple",data := .seq rest.toArray }).push { cls := .ref C,data := .fields #[.ref h.objs.size,.none,.none,.none,.bool false,.none] }).get? b = some o := fun b o hb => Heap.get?_push_of_some _ (Heap.get?_push_of_some _ hb)
  have hC₁ := hk _ _ hC
  have X₁ := X.keeps hk
  have hget : ((h.push { cls := .type "tuple",data := .seq rest.toArray }).push
      { cls := .ref C,data := .fields #[.ref h.objs.size,.none,.none,.none,.bool false,.none] }).get? (h.objs.size + 1) = some
      { cls := .ref C,data := .fields #[.ref h.objs.size,.none,.none,.none,.bool false,.none] } := by heap_get
  have hcC : (Value.ref C :: bmX).contains (.ref C) = true := by simp
  unfold isInstance
  repeat (first | with_reducible refine wpAny_loadPart_at hget ?_ | (with_reducible refine wpAny_isSubtype_exc hC₁ ?_; rw [hcC]) | wp_step)
  show wpAny _ _ (typeLookup (.ref C) _) _ _ _
  refine looks_findIn X₁ hi _ _ _ _ (fun _ _ e => e) ?_
  refine wpAny_holding (wpAny_bind ?_)
  refine bind_fn X₁ _ hf _ _ _ _ (fun _ _ e => e) ?_
  refine wpAny_bind (wpAny_mono (hq _ (h.objs.size + 1) h.objs.size hk (Heap.get?_none_of_le (Nat.le_succ _)) (Heap.get?_none_of_le (Nat.le_refl _)) (Nat.lt_succ_self _) hget ?_) (fun r s' hr => ?_) fun _ _ x => x)
  · exact Heap.get?_push_of_some _ (Heap.get?_push_at rfl rfl)
  · obtain ⟨rfl,hQ⟩ := hr
    wp_walk
    exact hQ
theorem xc_call {K : Frag} (X : K.In h) (hx : xcIn K C = true) {rest : List Value} {fI : Addr} {Q : Value → Shared → Prop} (hi : findIn K (.ref C) "__init__" = some (some (.ref fI))) (hf : typeIn K (.ref fI) = some (.type "function")) (hrest : rest.length ≤ sizeLine)
    (hq : ∀ h' e t₀,(∀ b o,h.get? b = some o → h'.get? b = some o) → h.get? e = none → h.get? t₀ = none → t₀ < e → h'.get? e = some { cls := .ref C,data := .fields #[.ref t₀,.none,.none,.none,.bool false,.none] } → h'.get? t₀ = some { cls := .type "tuple",data := .seq rest.toArray } →
      wpAny (model prog w) (A.under (.builtin "type.__call__" ⟨.ref C :: rest,[]⟩)) (call (.ref fI) (.ref e :: rest)) (fun r s' => r = .none ∧ Q (.ref e) s') E ⟨h',g,d,t,os⟩) :
    wpAny (model prog w) A (call (.ref C) rest) Q E ⟨h,g,d,t,os⟩ := by
  refine byC fun no9 => ?_
  obtain ⟨nm,q,N,bs,sn,sub,ab,col,dd,k0,k1,k2,k3,k5,hC⟩ := xc_cls X hx
  refine no9 ?_
  clear no9
  have f1 := tc_lookup
  have f2 := tc_bind (.ref C)
  have hT : (⟨h,g,d,t,os⟩ : Shared).TypeIs (.ref C) "type" := ⟨_,hC,rfl⟩
  refine wpAny_call (codeAny_of_tree ?_)
  show wpAny _ _ (callAny (.ref C) _) _ _ _
  repeat (any_goals (first | assumption | with_reducible refine wpAny_loadPart_at hC ?_ | wp_step))
  refine ⟨rfl,?_⟩
  refine codeAny_call_builtin_at (Code.quiet_builtin _ (by decide +kernel)) entry_typeCall (wpAny_check_type_call_sub hC (xc_type_call X hC hi hf hrest fun h' e t₀ a1 a2 a3 a4 a5 a6 => ?_))
  exact hq h' e t₀ a1 a2 a3 a4 a5 a6
theorem passX (self : Value) : refuseLoop self "__setattr__" (.ref C :: bmX) = pure () := by
  rw [refuseLoop_ref,refuseLoop_ref]
  exact F.store_Exception.passes self
theorem xs_entry {K : Frag} (X : K.In h) {x : Addr} {mA : Str → Option Value} {name : Str} {v : Value} {tk : Tok} {Q : Fin → Shared → Prop} {ns : List Str} (hC : h.get? C = some (xcObj nm q C N bs sn sub ab col dd k0 k1 k2 k3 k5)) (hl : findIn K (.ref C) name = some none) (I : h.Inst x C mA)
    (hq : ∀ h' tk',h'.Inst x C (fun y => if y = name then some v else mA y) →
      (∀ b o,b ≠ x → (∀ o₀ dx,h.get? x = some o₀ → o₀.dict = some dx → b ≠ dx) → h.get? b = some o → h'.get? b = some o) →
      (∀ o₀,h.get? x = some o₀ → ∃ o₁,h'.get? x = some o₁ ∧ o₁.cls = o₀.cls ∧ o₁.data = o₀.data ∧ o₁.slots = o₀.slots ∧ (∀ dx,o₀.dict = some dx → o₁.dict = some dx) ∧ (o₀.dict = none → ∀ dx,o₁.dict = some dx → h.get? dx = none)) → Q (.done (.ret .none)) ⟨h',g,d,tk',os⟩) (hw : Within mA ns) (hsz : ns.length ≤ 1000) :
    wpAny (model prog w) A (Builtin.«object.__setattr__» ⟨[.ref x,.str name tk,v],[]⟩) Q E ⟨h,g,d,t,os⟩ := by
  refine byC fun no9 => ?_
  obtain ⟨o,hx,hc,hnc,hd⟩ := I
  refine no9 ?_
  clear no9
  have hpass := passX (C := C) (.ref x)
  have hsz : ns.length + 1 ≤ sizeLine := Nat.le_trans (Nat.succ_le_succ hsz) (by decide)
  unfold Builtin.«object.__setattr__»
  repeat (first | rw [refuse_eq] | (rw [hpass]) | (with_reducible refine wpAny_loadPart_at hx ?_; rw [hc]) | with_reducible refine wpAny_mroOf_exc hC ?_ | (refine wpAny_bind (looks_findIn X hl _ _ _ _ (fun _ _ e => e) ?_)) | wp_step)
  rcases hd with ⟨hdn,hmA⟩ | ⟨dx,hdx,hne,hns⟩
  ·
    rw [hdn,if_neg (by simp [typeHasDict])]
    split
    · rename_i hcd
      exact noneX hcd
    split
    · rename_i c hcd
      exact absurd hcd (hnc c)
    · have hx₁ : (h.push { cls := .type "dict",data := .dict #[] }).get? x = some o := Heap.get?_push_of_some _ hx
      have hxs : x ≠ h.objs.size := Nat.ne_of_lt (Heap.lt_size hx)
      refine wpAny_bind (wpAny_alloc' ?_)
      refine wpAny_bind (wpAny_update' hx₁ ?_)
      refine wpAny_pure ?_
      have hgd : ((h.push { cls := .type "dict",data := .dict #[] }).update x fun o => { cls := o.cls,dict := some h.objs.size,data := o.data,slots := o.slots }).get? h.objs.size
          = some { cls := .type "dict",data := .dict #[] } :=
        (Heap.get?_update_ne _ _ _ _ hxs.symm).trans (Heap.get?_push_at rfl rfl)
      have hnd : ((h.push { cls := .type "dict",data := .dict #[] }).update x fun o => { cls := o.cls,dict := some h.objs.size,data := o.data,slots := o.slots }).Ns h.objs.size (fun _ => none) :=
        ⟨_,#[],_,hgd,rfl,fun e he => absurd he (by simp),fun _ => rfl⟩
      show wpAny _ _ (storeInDict h.objs.size (.str name tk) name v) _ _ _
      unfold storeInDict newKeyGuard
      refine wpAny_bind (wpAny_pure (wpAny_bind (wpAny_nsSet1 (Heap.Ns1.of_empty hnd) fun h' hn' hs => ?_)))
      refine byC fun no9 => ?_
      obtain ⟨oD,esD,epD,hoD,hdD,hcD⟩ := hn'.count (Within.cons name v Within.nil)
      refine no9 ?_
      clear no9
      refine wpAny_bind (wpAny_lookBehind hoD (by rw [hdD]; exact pastItsLine_dict (Nat.le_trans hcD (by rw [List.length_cons,List.length_nil,sizeLine_eq]; decide))) ?_)
      wp_walk
      have hx' : h'.get? x = some { cls := o.cls,dict := some h.objs.size,data := o.data,slots := o.slots } := ?_
      refine hq h' _ ⟨{ cls := o.cls,dict := some h.objs.size,data := o.data,slots := o.slots },hx',hc,hnc,.inr ⟨h.objs.size,rfl,hxs.symm,?_⟩⟩ (fun b ob hbx _ hb => ?_)
        (fun o₀ h₀ => by obtain rfl : o = o₀ := Option.some.inj (hx.symm.trans h₀); exact ⟨_,hx',rfl,rfl,rfl,(fun dx e => by rw [hdn] at e; exact noneX e),(fun _ dx e => by cases Option.some.inj e; exact Heap.get?_none_of_le (Nat.le_refl _))⟩)
      · obtain ⟨o',es,ep,e1,e2,e3,eu,e4⟩ := hn'
        exact ⟨o',es,ep,e1,e2,e3,eu,fun y => by rw [e4 y]; by_cases hy : y = name <;> simp [hy,hmA]⟩
      · exact (hs.2 b (Nat.ne_of_lt (Heap.lt_size hb))).trans ((Heap.get?_update_ne _ _ _ _ hbx).trans (Heap.get?_push_of_some _ hb))
      · refine (hs.2 x hxs).trans (Heap.get?_update_self _ hx₁ ?_)
        exact freed_with (Heap.get?_some_iff.mp hx).2
  ·
    rw [hdx]
    refine wpAny_pure ?_
    show wpAny _ _ (storeInDict dx (.str name tk) name v) _ _ _
    unfold storeInDict newKeyGuard
    refine wpAny_bind (wpAny_pure (wpAny_bind (wpAny_nsSet1 hns fun h' hn' hs => ?_)))
    refine byC fun no9 => ?_
    obtain ⟨oD,esD,epD,hoD,hdD,hcD⟩ := hn'.count (Within.cons name v hw)
    refine no9 ?_
    clear no9
    refine wpAny_bind (wpAny_lookBehind hoD (by rw [hdD]; exact pastItsLine_dict (Nat.le_trans hcD (by rw [List.length_cons]; (exact Nat.lt_of_lt_of_le (by assumption) (by decide))))) ?_)
    wp_walk
    refine hq h' _ ⟨o,(hs.2 x hne.symm).trans hx,hc,hnc,.inr ⟨dx,hdx,hne,hn'⟩⟩ (fun b ob _ hbd hb => ?_)
      (fun o₀ h₀ => ⟨o₀,(hs.2 x hne.symm).trans h₀,rfl,rfl,rfl,fun _ e => e,fun e => ?_⟩)
    · exact (hs.2 b (hbd o dx hx hdx)).trans hb
    · obtain rfl : o = o₀ := Option.some.inj (hx.symm.trans h₀)
      rw [hdx] at e; exact noneX (Eq.symm e)
end
end Mine.Internal
end
section
open PySem PySem.W PySem.Calls PyProof.Rows Builtin.ObjectAttr
namespace Mine.Internal
section
variable {prog : Program} {w : World} {A : Around} {E : Value → Shared → Prop} {h : Heap} {g : Array GenState} {d : Drawn} {t : Nat} {os : OsState}
variable {nm q : Str} {C N : Addr} {bs : List Value} {sn : List Str} {sub : List Value} {ab : Bool} {col : Option Bool} {dd : Option Addr} {k0 k1 k2 k3 k5 : Option Value}
noncomputable abbrev xO (C : Addr) (d : Option Addr) (t₀ : Addr) : Obj := { cls := .ref C,dict := d,data := .fields #[.ref t₀,.none,.none,.none,.bool false,.none] }
theorem xs_check {e : Addr} {oe : Obj} {rest : List Value} {Q : Unit → Shared → Prop} (hC : h.get? C = some (xcObj nm q C N bs sn sub ab col dd k0 k1 k2 k3 k5)) (he : h.get? e = some oe) (hcls : oe.cls = .ref C) (hq : Q () ⟨h,g,d,t,os⟩) :
    wpAny (model prog w) A (checkBuiltinCall "Exception.__init__" ⟨.ref e :: rest,[]⟩) Q E ⟨h,g,d,t,os⟩ := by
  have F := F.excBase_Exception
  have hcB : (Value.ref C :: bmX).contains (.type "Exception") = true := by rw [List.contains_cons,bmX_E,Bool.or_true]
  have hshort := F.noStar
  simp only [checkBuiltinCall,F.initKind,F.initSplit,F.initRow]
  repeat (first | (with_reducible refine wpAny_loadPart_at he ?_; rw [hcls]) | with_reducible refine wpAny_loadPart_at hC ?_ | (with_reducible refine wpAny_isSubtype_exc hC ?_; rw [hcB]) | wp_step)
  refine wpAny_onRaise ?_
  rw [show ∀ (a b : String) (n : Nat),Bind.check ⟨.positional,"*","Exception",.self,[⟨"args",.varPos,false⟩]⟩ a b n (List.map (fun x => x.fst) ({ pos := Value.ref e :: rest } : Args).kw) = pure () from
    fun a b n => check_star_args _ _ _ _ _ _]
  exact wpAny_pure hq
theorem xs_super {e t₀ : Addr} {v : Value} {Q : Value → Shared → Prop} (hC : h.get? C = some (xcObj nm q C N bs sn sub ab col dd k0 k1 k2 k3 k5)) (he : h.get? e = some (xO C none t₀))
    (hq : ∀ h' t₁,h'.get? e = some (xO C none t₁) → h.get? t₁ = none → (∀ b o,b ≠ e → h.get? b = some o → h'.get? b = some o) → Q .none ⟨h',g,d,t,os⟩) :
    wpAny (model prog w) A (call (.builtin "Exception.__init__") [.ref e,v]) Q E ⟨h,g,d,t,os⟩ := by
  have F := F.excBase_Exception
  refine wpAny_call (codeAny_call_builtin F.init.plain F.initEntry (xs_check hC he rfl ?_))
  unfold Builtin.«BaseException.__init__»
  dsimp only
  rw [if_neg (by decide)]
  refine wpAny_bind (wpAny_newTuple ?_ (by size_fits))
  refine wpAny_bind ?_
  unfold Builtin.BaseException.bexcPut
  have he1 : (h.push { cls := .type "tuple",data := .seq [v].toArray }).get? e = some (xO C none t₀) := Heap.get?_push_of_some _ he
  refine wpAny_bind (wpAny_field he1 rfl (x := .ref t₀) rfl ?_)
  refine wpAny_bind (wpAny_setField he1 rfl (by simp) ?_)
  refine wpAny_letGo ?_
  refine wpAny_pure ?_
  refine hq _ h.objs.size ?_ (Heap.get?_none_of_le (Nat.le_refl _)) fun b o hb e1 => ?_
  · exact Heap.get?_update_self _ he1 rfl
  · exact (Heap.get?_update_other _ _ (Ne.symm hb)).trans (Heap.get?_push_of_some _ e1)
theorem xs_attr {K : Frag} (X : K.In h) {x : Addr} {mA : Str → Option Value} {name : Str} {v : Value} {Q : Unit → Shared → Prop} {ns : List Str} (hC : h.get? C = some (xcObj nm q C N bs sn sub ab col dd k0 k1 k2 k3 k5)) (hl : findIn K (.ref C) name = some none)
    (hs : findIn K (.ref C) "__setattr__" = some (some (.builtin "object.__setattr__"))) (ho : subIn K (.ref C) (.type "object") = some true) (I : h.Inst x C mA)
    (hq : ∀ h' tk',h'.Inst x C (fun y => if y = name then some v else mA y) →
      (∀ b o,b ≠ x → (∀ o₀ dx,h.get? x = some o₀ → o₀.dict = some dx → b ≠ dx) → h.get? b = some o → h'.get? b = some o) →
      (∀ o₀,h.get? x = some o₀ → ∃ o₁,h'.get? x = some o₁ ∧ o₁.cls = o₀.cls ∧ o₁.data = o₀.data ∧ o₁.slots = o₀.slots ∧ (∀ dx,o₀.dict = some dx → o₁.dict = some dx) ∧ (o₀.dict = none → ∀ dx,o₁.dict = some dx → h.get? dx = none)) → Q () ⟨h',g,d,tk',os⟩) (hw : Within mA ns) (hsz : ns.length ≤ 1000) :
    wpAny (model prog w) A (setAttr (.ref x) name v) Q E ⟨h,g,d,t,os⟩ := by
  have I0 := I
  refine byC fun no9 => ?_
  obtain ⟨o,hx,hc,hnc,hd⟩ := I0
  refine no9 ?_
  clear no9
  have SF := F.store_object
  have hty : Looks (model prog w) h (typeOf (.ref x)) (.ref C) := (Looks.ld hx).andThen (by rw [hc]; exact .now)
  have hin : Looks (model prog w) h (isInstance (.ref x) (.type "object")) true := hty.andThen (looks_subIn X ho)
  refine wpAny_bind (wpAny_mkText (wpAny_bind (wpAny_bind (wpAny_bind (hty _ _ _ _ (fun _ _ e => e) (looks_findIn X hs _ _ _ _ (fun _ _ e => e) (wpAny_holding ?_)))))))
  rw [SF.slot.bind]
  refine wpAny_bind (wpAny_pure (wpAny_bind (wpAny_call ?_)))
  refine codeAny_call_builtin SF.slot.plain SF.entry ?_
  refine @check_slot (model prog w) _ _ ⟨h,g,d,t + 1,os⟩ "object.__setattr__" "object" "__setattr__" (.ref x) [.str name t,v] [] _ SF.kind SF.split hin (SF.args (.ref x) (.str name t) v) ?_
  refine xs_entry X hC hl I (fun h' tk' I' hk hsame => ?_) hw hsz
  exact wpAny_pure (wpAny_pure (hq h' tk' I' hk hsame))
end
end Mine.Internal
end
namespace Mine.Internal
section
variable {prog : Program} {w : World} {A₀ A : Around} {s : Shared} {base h₀ : Heap} {outer : List Env} {L : Addr} {m : Str → Option Value} {env : Env} {own : Led} {K : Frag} {p : Program} {loose : List Str} {mean : ExcName → Option Value} {mg mb : Str → Option Value}
  {Q E : Value → Shared → Prop} {name qual : Str} {params : Arguments} {body : List Stmt} {scope : Scope} {dV kV doc pm cdv ct oc : Value} {an od : Option Addr} {osl : Array (Option Value)} {f : Addr} {vs : List Value} {binds : List (Str × Value)}
theorem enterR (B : Below A₀ base outer h₀) (F : Fr h₀ L s.heap m) (X₀ : K.In h₀) (N : News h₀ L s.heap own) (T : Top p loose mean mg mb h₀) (hA : A.frames = some (env :: outer)) (hf : env.frame = some L) (hke : env.scope.kind = .function)
    (ho : K.lookup f = some ⟨oc,od,.func (fnOf name qual params body scope dV kV doc pm an cdv ct),osl⟩) (hcd : codeIn K cdv qual = true) (hroom : A.depth < recursionLimit)
    (hbind : BindsTo s (fnOf name qual params body scope dV kV doc pm an cdv ct) ⟨vs,[]⟩ binds)
    (hkind : (binds.all fun y => scope.names.lookup y.1 == some .local || scope.names.lookup y.1 == some .cell) = true)
    (hnd : ((cellsFrom 0 scope.names []).map (·.1)).Nodup)
    (h : ∀ g L' h₁ tk cells,Fr h₀ L g m → Fr g L' h₁ (bindL (envOfC qual scope L' f cdv).kindOf binds fun _ => none) → News g L' h₁ (cells ++ own) →
      CellsAre (bindC (envOfC qual scope L' f cdv).kindOf binds fun _ => none) (cellsFrom (L' + 1) scope.names []) cells → Below A base (env :: outer) g → K.In g → Top p loose mean mg mb g → (∀ p ∈ own,p.1 < L') → (∀ q ∈ cells,L' < q.1) → (∀ b o,s.heap.get? b = some o → b ∉ own.map (·.1) → g.get? b = some o) →
      wpAny (model prog w) (A.deeper (envOfC qual scope L' f cdv)) (execs body (envOfC qual scope L' f cdv))
        (fun fl s' => Q (match fl with | .ret v => v | _ => .none) s')
        (fun e s' => wpAny (model prog w) (A.deeper (envOfC qual scope L' f cdv)) (leaving (envOfC qual scope L' f cdv) e) (fun _ s'' => E e s'') (fun e' s'' => E e' s'') s')
        { s with heap := h₁,toks := tk })
    (hco : scope.isCoroutine = false) (hgen : scope.isGenerator = false) (hk : scope.kind = .function) : wpAny (model prog w) A (call (.ref f) vs) Q E s := by
  refine wpAny_call ?_
  refine byC fun no9 => ?_
  obtain ⟨FG,BG,st,_⟩ := groundX (R := fun r s' => match r with | .ok (.ret v) => Q v s' | .ok _ => False | .error e => E e s') B F N hA hf hke
  refine no9 ?_
  clear no9
  have X := X₀.keeps F.keep
  refine codeAny_call_function (o := ⟨oc,od,.func (fnOf name qual params body scope dV kV doc pm an cdv ct),osl⟩) hroom (X _ _ ho) rfl hco hgen rfl (codeRec_of X hcd) (hbind _ _ _ _ ?_)
  refine wpAny_newFunctionEnv_cells hk (kindsX hkind _) fun env' he s' x => ?_
  subst he
  refine ⟨(T.nolimit.keeps F.keep).keeps x.toInCall.keep,codeAny_func ?_⟩
  refine byC fun no9 => ?_
  obtain ⟨h₁,tk,rfl,_⟩ := x.done
  have hk₁ := x.toInCall.keep
  have hnd' : ((cellsFrom (s.heap.objs.size + 1) scope.names []).map (·.1)).Nodup := cellsFrom_names scope.names 0 (s.heap.objs.size + 1) [] [] rfl ▸ hnd
  obtain ⟨cells,NC,Y⟩ := Cl.news (h₀ := s.heap) (Nat.le_refl _) fun n c hm => ⟨x.cell n c (lookup_of_mem_nodup hnd' hm),x.above n c hm⟩
  refine no9 ?_
  clear no9
  refine h _ s.heap.objs.size h₁ tk cells FG ⟨x.toInCall.ns,fun b o e => hk₁ b o (of_hideAll _ e),Nat.le_of_eq (hideAll_size _ _)⟩ (fun p hp => ?_) Y BG (X₀.keeps st) (T.keeps st) (fun p hp => Heap.lt_size (N p hp).1) (fun q hq => ?_) (fun b o e nb => hideAll_get _ e nb)
  · rcases List.mem_append.mp hp with hp | hp
    · refine ⟨(NC p hp).1,(NC p hp).2.1,?_⟩
      cases q : (hideAll s.heap (own.map (·.1))).get? p.1 with
      | none => rfl
      | some o => have := of_hideAll _ q; rw [(NC p hp).2.2] at this; exact noneX this
    · exact ⟨hk₁ _ _ (N p hp).1,Nat.ne_of_lt (Heap.lt_size (N p hp).1),hideAll_none _ (List.mem_map_of_mem hp)⟩
  · have hm : ∀ {cm : Str → Option Value} {cs : List (Str × Addr)} {cells : Led},CellsAre cm cs cells → ∀ q ∈ cells,∃ n,(n,q.1) ∈ cs := by
      intro cm cs cells Y
      induction Y with
      | nil => intro q hq; cases hq
      | cons _ _ ih =>
        intro q hq
        rcases List.mem_cons.mp hq with rfl | hq
        · exact ⟨_,.head _⟩
        · obtain ⟨n,hn⟩ := ih q hq
          exact ⟨n,.tail _ hn⟩
    obtain ⟨n,hn⟩ := hm Y q hq
    exact x.above n q.1 hn
end
theorem ground_back {c : FrameCx} {g g' g'' h : Heap} {m : Str → Option Value} (B : Below c.A₀ c.base c.outer g) (FG : Fr g c.L g' m) (T : KtsTurn (c.L :: c.frs) g' g'') (D : KtsDicts c.frs g) (k : ∀ b o,g''.get? b = some o → h.get? b = some o) (ql : Bool) (hq : ql = true → g'' = g') :
    ∃ g₂,KtsTurn c.frs g g₂ ∧ Fr g₂ c.L h m ∧ Below c.A₀ c.base c.outer g₂ ∧ KtsDicts c.frs g₂ ∧ (ql = true → g₂ = g) := by
  cases ql with
  | true =>
    have e := hq rfl
    subst e
    exact ⟨g,.refl,FG.keeps k,B,D,fun _ => rfl⟩
  | false =>
    have up : g'.UpToSlots h := fun b o e hd => by
      obtain ⟨sl,hs⟩ := T.up e
      exact ⟨sl,k _ _ hs⟩
    refine byC fun no9 => ?_
    obtain ⟨g₂,T2,F2,B2⟩ := kts_ground (name := c.cn) (scope := c.cs) (a := c.a) (cd := c.ccd) (B := g'') B FG (fun b o e nm => T.other b o e nm) k up
    refine no9 ?_
    clear no9
    exact ⟨g₂,T2,F2,B2,D.turn T2,fun h => falseX h⟩
theorem bindL_not {kd : Str → Option NameKind} {x : Str} : ∀ {b : List (Str × Value)} {m : Str → Option Value},x ∉ b.map (·.1) → bindL kd b m x = m x
  | [],_,_ => rfl
  | (n,v) :: r,m,h => by
    have h1 : x ≠ n := fun e => h (by simp [e])
    have h2 : x ∉ r.map (·.1) := fun e => h (by simp at e ⊢; exact .inr e)
    rw [bindL,bindL_not h2]
    split
    · exact if_neg h1
    · rfl
theorem bindC_not {kd : Str → Option NameKind} {x : Str} : ∀ {b : List (Str × Value)} {m : Str → Option Value},x ∉ b.map (·.1) → bindC kd b m x = m x
  | [],_,_ => rfl
  | (n,v) :: r,m,h => by
    have h1 : x ≠ n := fun e => h (by simp [e])
    have h2 : x ∉ r.map (·.1) := fun e => h (by simp at e ⊢; exact .inr e)
    rw [bindC,bindC_not h2]
    split
    · rfl
    · exact if_neg h1
theorem bindL_get {kd : Str → Option NameKind} {x : Str} {v : Value} (hk : kd x = some .local) : ∀ {b : List (Str × Value)} {m : Str → Option Value},(b.map (·.1)).Nodup → (x,v) ∈ b → bindL kd b m x = some v
  | [],_,_,h => nomatch h
  | (n,u) :: r,m,nd,h => by
    have nd := List.nodup_cons.mp nd
    rw [bindL]
    rcases List.mem_cons.mp h with e | h
    · cases e
      rw [bindL_not nd.1,if_pos hk]
      exact if_pos rfl
    · exact bindL_get hk nd.2 h
theorem bindC_get {kd : Str → Option NameKind} {x : Str} {v : Value} (hk : kd x ≠ some .local) : ∀ {b : List (Str × Value)} {m : Str → Option Value},(b.map (·.1)).Nodup → (x,v) ∈ b → bindC kd b m x = some v
  | [],_,_,h => nomatch h
  | (n,u) :: r,m,nd,h => by
    have nd := List.nodup_cons.mp nd
    rw [bindC]
    rcases List.mem_cons.mp h with e | h
    · cases e
      rw [bindC_not nd.1,if_neg hk]
      exact if_pos rfl
    · exact bindC_get hk nd.2 h
theorem exc_ty : typeOf (.type "Exception") = pure (.type "type") := by kernel_rfl
theorem exc_opq : opaqueClassAbove (.type "Exception") = pure none := by kernel_rfl
inductive InitAt (K : Frag) : Prop
  | mk (oc od osl name qual params scope dV kV doc pm cdv ct an) (pa pb pc pd pe pf qa qb qc qd ra rb rc rd : Pos) (T : Addr) (o : Obj) (items : Array Value) (n : Nat)
  (h1 : K.lookup 36 = some ⟨oc,od,.func (fnOf name qual params [.Expr (.Call (.Attribute (.Name "Exception" pa) "__init__" pb) [.Name "self" pc,.Name "what" pd] [] pe) pf,
    .Assign [.Attribute (.Name "self" qa) "what" qb] (.Name "what" qc) qd,.Assign [.Attribute (.Name "self" ra) "at" rb] (.Name "at" rc) rd] scope dV kV doc pm an cdv ct),osl⟩)
  (h2 : codeIn K cdv qual = true) (h3 : (pb.endLine == pe.line) = true) (h4 : K.lookup T = some o) (h5 : o.data = .seq items n) (h6 : dV = .ref T)
  (h7 : ∀ v1 v2 : Value,∃ k,bindArgs (fnOf name qual params [.Expr (.Call (.Attribute (.Name "Exception" pa) "__init__" pb) [.Name "self" pc,.Name "what" pd] [] pe) pf,
    .Assign [.Attribute (.Name "self" qa) "what" qb] (.Name "what" qc) qd,.Assign [.Attribute (.Name "self" ra) "at" rb] (.Name "at" rc) rd] scope dV kV doc pm an cdv ct) ⟨[v1,v2],[]⟩ = seqItems? dV >>= k ∧ k (some items) = pure ([("self",v1),("what",v2),("at",.none)] : List (Str × Value)))
  (h8 : scope.names.lookup ("self" : Str) = some .local ∧ scope.names.lookup ("what" : Str) = some .local ∧ scope.names.lookup ("at" : Str) = some .local ∧ scope.names.lookup ("Exception" : Str) = some .globalImplicit)
  (h9 : ((cellsFrom 0 scope.names []).map (·.1)).Nodup) (h10 : scope.isCoroutine = false) (h11 : scope.isGenerator = false) (h12 : scope.kind = .function)
structure XCls (K : Frag) (C : Nat) : Prop where
  is : xcIn K C = true
  init : findIn K (.ref C) "__init__" = some (some (.ref 36))
  what : findIn K (.ref C) "what" = some none
  at_ : findIn K (.ref C) "at" = some none
  set : findIn K (.ref C) "__setattr__" = some (some (.builtin "object.__setattr__"))
  obj : subIn K (.ref C) (.type "object") = some true
structure XOk (K : Frag) : Prop where
  init : InitAt K
  fn : typeIn K (.ref 36) = some (.type "function")
  nm : nsIn K mainGlobals "Exception" = some none
  bt : bootBuiltins "Exception" = some (.type "Exception")
  ga : findIn K (.type "type") "__getattribute__" = some (some (.builtin "type.__getattribute__"))
  tt : subIn K (.type "type") (.type "type") = some true
  ge : findCls K (.type "Exception") (.type "type") "__init__" = some (.val (.builtin "Exception.__init__"))
  cls : ∀ C,C = 59 ∨ C = 71 ∨ C = 83 → XCls K C
section
variable {prog : Program} {w : World} {K : Frag} {p : Program} {loose : List Str} {mean : ExcName → Option Value} {mg mb : Str → Option Value}
theorem exc_getF {A : Around} {E : Value → Shared → Prop} {s : Shared} {Q : Value → Shared → Prop} (X : K.In s.heap) (KX : XOk K) (h : Q (.builtin "Exception.__init__") { s with toks := s.toks + 1 }) : wpAny (model prog w) A (getAttr (.type "Exception") "__init__") Q E s := by
  refine cls_open (mc := .type "type") (hook := none) X (Looks.of_pure exc_opq) (Looks.of_pure exc_ty) KX.ga ?_ KX.tt KX.ge ?_
  · exact looks_hook X (by rfl)
  · exact wpAny_pure (by show wpAny _ _ (handedOut _) _ _ _; rw [handedOut_of (by kernel_rfl)]; exact wpAny_pure h)
theorem exc_meth {A : Around} {E : Value → Shared → Prop} {s : Shared} {pl : Sem Bool} {Q : Value × List Value → Shared → Prop} (X : K.In s.heap) (KX : XOk K) (h : Q (.builtin "Exception.__init__",[]) { s with toks := s.toks + 1 }) : wpAny (model prog w) A (getMethod (.type "Exception") "__init__" pl) Q E s := by
  unfold getMethod specialOf
  rw [exc_ty]
  refine wpAny_bind (wpAny_bind (wpAny_pure (looks_findIn X KX.ga _ _ _ _ (fun _ _ e => e) ?_)))
  dsimp only
  rw [if_pos canon_tga]
  exact wpAny_bind (exc_getF X KX (wpAny_pure h))
theorem made_sound {c : FrameCx} {C : Nat} {P : Params} {m : Str → Option Value} {Y : Led} {H : MH} {wd : Wd} {s : Shared} {V : Value} {Q E : Value → Shared → Prop} (KX : XOk K) (hC : C = 59 ∨ C = 71 ∨ C = 83) (O : c.Ok K p loose mean mg mb) (S : RepS c P m Y H wd s.heap) (hroom : c.dp + 1 < recursionLimit)
    (hq : ∀ h' e tk,MadeX s.heap h' e C → Q (.ref e) { s with heap := h',toks := tk }) : wpAny (model prog w) c.A (call (.ref C) [V]) Q E s := by
  have CX := KX.cls C hC
  have hkn : K.In wd.g := S.kin O.kin
  have hT0 : Top p loose mean mg mb wd.g := O.top.keeps S.below.stays
  have hks : K.In s.heap := hkn.keeps S.fr.keep
  obtain ⟨h,g,d,t,os⟩ := s
  refine xc_call hks CX.is CX.init KX.fn (by size_fits) fun h1 e t₀ k1 n1 n2 lt e1 e2 => ?_
  refine byC fun no9 => ?_
  obtain ⟨oc,od,osl,name,qual,params,scope,dV,kV,doc,pm,cdv,ct,an,pa,pb,pc,pd,pe,pf,qa,qb,qc,qd,ra,rb,rc,rd,T,o,items,n,ho,hcd,hpl,hTl,hod,rfl,hbd,⟨l1,l2,l3,l4⟩,hnd,hco,hgen,hkd⟩ := KX.init
  have hL : c.L ≠ e := fun q => by
    obtain ⟨oL,_,_,hL,_⟩ := S.fr.ns
    have hL : h.get? c.L = _ := hL
    rw [q,n1] at hL; exact noneX hL
  have hge : wd.g.get? e = none := kts_none (G := h) S.fr.keep n1
  have F1 : Fr wd.g c.L h1 m := S.fr.keeps k1
  have N1 : News wd.g c.L h1 ((e,xO C none t₀) :: wd.all Y) := fun q hq => by
    rcases List.mem_cons.mp hq with rfl | hq
    · exact ⟨e1,hL.symm,hge⟩
    · exact ⟨k1 _ _ (S.nw q hq).1,(S.nw q hq).2⟩
  obtain ⟨kk,hb1,hb2⟩ := hbd (.ref e) V
  refine no9 ?_
  clear no9
  refine enterR (s := ⟨h1,g,d,t,os⟩) S.below F1 hkn N1 hT0 rfl rfl O.fn ho hcd (by rw [depth_under_make]; exact hroom) (BindsTo.of_defaults (binds := [("self",.ref e),("what",V),("at",.none)]) rfl (hks.keeps k1 _ _ hTl) hod hb1 hb2) ?_ hnd ?_ hco hgen hkd
  · simp [l1,l2,l3]
  intro g0 L' h₁ tk cells FG F' N' Y' B' X' T' hlt hgt hold
  have hkind : ∀ x,(envOfC qual scope L' 36 cdv).kindOf x = scope.names.lookup x := fun _ => rfl
  have hbn : ([("self",Value.ref e),("what",V),("at",.none)] : List (Str × Value)).map (·.1) = (["self","what","at"] : List Str) := rfl
  have hnd3 : (([("self",Value.ref e),("what",V),("at",.none)] : List (Str × Value)).map (·.1)).Nodup := by rw [hbn]; decide
  generalize hmm : bindL (envOfC qual scope L' 36 cdv).kindOf [("self",Value.ref e),("what",V),("at",.none)] (fun _ => none) = mm at F'
  have r1 : mm "self" = some (.ref e) := hmm ▸ bindL_get l1 hnd3 (.head _)
  have r2 : mm "what" = some V := hmm ▸ bindL_get l2 hnd3 (.tail _ (.head _))
  have r3 : mm "at" = some .none := hmm ▸ bindL_get l3 hnd3 (.tail _ (.tail _ (.head _)))
  have keep0 : ∀ b o,h.get? b = some o → h₁.get? b = some o := fun b o hb => by
    by_cases hm : b ∈ ((e,xO C none t₀) :: wd.all Y).map (·.1)
    · obtain ⟨q,hq,rfl⟩ := List.mem_map.mp hm
      rcases List.mem_cons.mp hq with rfl | hq'
      · have hb : h.get? e = some o := hb
        rw [n1] at hb; exact noneX hb
      · have h2 : h.get? q.1 = some q.2 := (S.nw q hq').1
        rw [h2] at hb; cases Option.some.inj hb
        exact (N' q (List.mem_append_right _ hq)).1
    · exact F'.keep _ _ (hold b o (k1 b o hb) hm)
  have he1 : h₁.get? e = some (xO C none t₀) := (N' (e,xO C none t₀) (List.mem_append_right _ (.head _))).1
  have heL : e ≠ L' := (N' (e,xO C none t₀) (List.mem_append_right _ (.head _))).2.1
  have heg : g0.get? e = none := (N' (e,xO C none t₀) (List.mem_append_right _ (.head _))).2.2
  let E2 : Env := envOfC qual scope L' 36 cdv
  have nm : ∀ {A : Around} {E3 Q3 : Value → Shared → Prop} {s3 : Shared} {x : Str} {v : Value} {ps : Pos},Fr g0 L' s3.heap mm → scope.names.lookup x = some .local → (x == ("__debug__" : Str)) = false → mm x = some v → Q3 v s3 → wpAny (model prog w) A (eval (.Name x ps) E2) Q3 E3 s3 :=
    fun F hk hd hm q => wpAny_Name (wpAny_loadName_local hkd (by rw [hkind]; exact hk) F.ns hm q) hd
  have frE : ∀ {ha hb : Heap} {dx : Option Addr},Fr g0 L' ha mm → (∀ z,dx = some z → z ≠ L' ∧ g0.get? z = none) → (∀ b o,b ≠ e → (∀ z,dx = some z → b ≠ z) → ha.get? b = some o → hb.get? b = some o) → Fr g0 L' hb mm := fun F hz k =>
    ⟨F.ns.at' fun o q => k _ _ heL.symm (fun z hz' => ((hz z hz').1).symm) q,fun b o q => k b o (fun x => by rw [x,heg] at q; exact noneX q) (fun z hz' x => by rw [x,(hz z hz').2] at q; exact noneX q) (F.keep b o q),F.above⟩
  have ket : ∀ {ha hb : Heap} {dx : Option Addr},(∀ b o,h.get? b = some o → ha.get? b = some o) → (∀ z,dx = some z → h.get? z = none) → (∀ b o,b ≠ e → (∀ z,dx = some z → b ≠ z) → ha.get? b = some o → hb.get? b = some o) → ∀ b o,h.get? b = some o → hb.get? b = some o := fun k hz k' b o q =>
    k' b o (fun x => by rw [x,n1] at q; exact noneX q) (fun z hz' x => by rw [x,hz z hz'] at q; exact noneX q) (k b o q)
  obtain ⟨cn,cq,cN,cbs,csn,csub,cab,ccol,cdd,c0,c1,c2,c3,c5,hC0⟩ := xc_cls hks CX.is
  have hC0 : h.get? C = _ := hC0
  have inter : interactive E2 = false := by unfold interactive; rw [show E2.scope.kind = .function from hkd]; rfl
  refine wpAny_execs_cons (wpAny_Expr_any ?_ inter (swaps_no rfl))
  refine mcall rfl rfl hpl ?_
  have T := topRead_of T'
  refine Name_function_global hkd (by rw [hkind]; exact l4) ?_ rfl
  refine loadGlobal_builtin (mg := mg) (mb := mb) (T.g.keeps F'.keep) (mg_none_of X' T.g KX.nm) (T.b.keeps F'.keep) ((T.builtins _ (by decide +kernel)).trans KX.bt) ?_
  refine exc_meth (X'.keeps F'.keep) KX ?_
  refine PyProof.Rows.callWith_builtin1 ?_ rfl rfl
  refine args_cons ?_ rfl
  refine nm F' l1 (by decide +kernel) r1 ?_
  refine args_cons ?_ rfl
  refine nm F' l2 (by decide +kernel) r2 ?_
  refine args_nil ?_
  refine xs_super (keep0 _ _ hC0) he1 fun h2 t₁ f1 f2 f3 => ?_
  have F2 : Fr g0 L' h2 mm := frE (dx := none) F' (fun z q => nomatch q) fun b o hb _ q => f3 b o hb q
  have kp2 := ket (dx := none) keep0 (fun z q => nomatch q) fun b o hb _ q => f3 b o hb q
  refine wpAny_execs_cons (plainObj_wpAny_Assign_Attribute ?_ (swaps_no rfl))
  refine nm F2 l2 (by decide +kernel) r2 ?_
  refine nm F2 l1 (by decide +kernel) r1 ?_
  refine xs_attr (ns := []) (mA := fun _ => none) (hks.keeps kp2) (kp2 _ _ hC0) CX.what CX.set CX.obj ⟨_,f1,rfl,(fun _ q => nomatch q),.inl ⟨rfl,fun _ => rfl⟩⟩ (fun h3 tk3 I3 a1 a2 => ?_) Within.nil (by decide)
  refine byC fun no9 => ?_
  obtain ⟨o3,i1,i2,i3,i4,i5,i6⟩ := a2 _ f1
  refine no9 ?_
  clear no9
  have a1' : ∀ b o,b ≠ e → (∀ z,(none : Option Addr) = some z → b ≠ z) → h2.get? b = some o → h3.get? b = some o := fun b o hb _ q => a1 b o hb (fun o₀ dx q1 q2 => by rw [f1] at q1; cases q1; exact noneX q2) q
  have F3 : Fr g0 L' h3 mm := frE (dx := none) F2 (fun z q => nomatch q) a1'
  have kp3 := ket (dx := none) kp2 (fun z q => nomatch q) a1'
  refine wpAny_execs_cons (plainObj_wpAny_Assign_Attribute ?_ (swaps_no rfl))
  refine nm F3 l3 (by decide +kernel) r3 ?_
  refine nm F3 l1 (by decide +kernel) r1 ?_
  refine xs_attr (ns := ["what"]) (hks.keeps kp3) (kp3 _ _ hC0) CX.at_ CX.set CX.obj I3 (fun h4 tk4 I4 b1 b2 => ?_) (Within.cons _ _ Within.nil) (by decide)
  refine byC fun no9 => ?_
  obtain ⟨o4,j1,j2,j3,j4,j5,j6⟩ := b2 _ i1
  refine no9 ?_
  clear no9
  have hdn : ∀ z,o3.dict = some z → h2.get? z = none := i6 rfl
  have b1' : ∀ b o,b ≠ e → (∀ z,o3.dict = some z → b ≠ z) → h3.get? b = some o → h4.get? b = some o := fun b o hb hz q => b1 b o hb (fun o₀ dx q1 q2 => by rw [i1] at q1; cases q1; exact hz dx q2) q
  have kp4 := ket (dx := o3.dict) kp3 (fun z q => kts_none kp2 (hdn z q)) b1'
  refine wpAny_execs_nil ⟨rfl,?_⟩
  refine hq h4 e tk4 ⟨kp4,n1,o4.dict,t₁,?_⟩
  rw [j1]
  have e1 : o4.cls = .ref C := j2.trans i2
  have e2 : o4.data = .fields #[.ref t₁,.none,.none,.none,.bool false,.none] := j3.trans i3
  have e3 : o4.slots = #[] := j4.trans i4
  obtain ⟨z1,z2,z3,z4⟩ := o4
  dsimp only at e1 e2 e3
  subst e1 e2 e3
  rfl
end
section
variable {ql : Bool} {prog : Program} {w : World} {K : Frag} {p : Program} {loose : List Str} {mean : ExcName → Option Value} {mg mb : Str → Option Value} {D : Nat}
  {t : Cxt} {H : MH} {wd : Wd} {s : Shared} {X : Nat → MH → Prop} {Q : FL → Loc → MH → Prop} {Qr : Flow → Shared → Prop} {Er : Value → Shared → Prop}
theorem raise_made {M : Model} {A : Around} {C : Nat} {x : Sem Value} {env : Env} {Q : Flow → Shared → Prop} {E : Value → Shared → Prop} (hx : xcIn K C = true) (hh : A.handled = none)
    (h : wpAny M A x (fun v s₁ => ∃ e d t,v = .ref e ∧ K.In s₁.heap ∧ s₁.heap.get? e = some (xO C d t) ∧ E (.ref e) s₁) E s) : wpAny M A (raiseStmt env (some x) none) Q E s := by
  have hcB : (Value.ref C :: bmX).contains (.type "BaseException") = true := by rw [List.contains_cons,bmX_B,Bool.or_true]
  unfold raiseStmt
  refine wpAny_bind (wpAny_mono h (fun v s₁ h₁ => ?_) fun _ _ x => x)
  refine byC fun no9 => ?_
  obtain ⟨e,d,t,rfl,hK,he,hE⟩ := h₁
  refine no9 ?_
  clear no9
  obtain ⟨nm,q,N,bs,sn,sub,ab,col,dd,k0,k1,k2,k3,k5,hC⟩ := xc_cls hK hx
  obtain ⟨hp,g,d,tk,os⟩ := s₁
  repeat (first | with_reducible refine wpAny_loadPart_at he ?_ | with_reducible refine wpAny_loadPart_at hC ?_ | (with_reducible refine wpAny_isSubtype_exc hC ?_; rw [hcB]) | wp_step)
  exact wpAny_raiseNew_none hh hE
theorem RepS.rb {c : FrameCx} {P : Params} {m : Str → Option Value} {Y : Led} {H : MH} {wd : Wd} {h : Heap} (S : RepS c P m Y H wd h) : RB c P Y H wd := ⟨S.below,S.dic,S.mr,S.nd,S.sp,S.ap⟩
theorem xcls_ok {C : Nat} (h : (C == 59 || C == 71 || C == 83) = true) : C = 59 ∨ C = 71 ∨ C = 83 := by simpa [or_assoc] using h
theorem s_raise {f : EF} {n C : Nat} {e : IE} {e' : Expr} {x : Str} {np cpos pos : Pos} (KO : KOk K) (KX : XOk K) (hf : ESound prog w K p loose mean mg mb ql D f) (FO : FOk t) (O : Cxt.Ok K p loose mean mg mb D t) (hD : 1 ≤ D)
    (hC : C = 59 ∨ C = 71 ∨ C = 83) (hg : t.sc.glob x = true) (hx : ftab.lookup x = some C) (he : chkE n t.sc e e' = true)
    (S : RepS t.c w.params t.m t.Y H wd s.heap) (L : LocS w t wd) (q : f e t.l H (fun v H1 => ∃ x,v = .str x ∧ x.length ≤ 1000 ∧ X C H1) X) (hX : XS w ql t wd s X Er) :
    wpAny (model prog w) t.c.A (exec (.Raise (some (.Call (.Name x np) [e'] [] cpos)) none pos) t.env) Qr Er s := by
  refine byC fun no9 => ?_
  obtain ⟨h1,h2⟩ := KO.fns x C hx
  refine no9 ?_
  clear no9
  rw [arm_exec_Raise]
  refine wpAny_bind (wpAny_standAt (raise_made (KX.cls C hC).is rfl ?_))
  refine wpAny_bind ?_
  refine Call_ (e_glob O S hg h1 ?_)
  refine callWith_K (O.kin S) h2 ?_ (chk_star he) rfl
  refine args_cons ?_ (chk_star he)
  refine hf n e e' t he O H wd s _ X S (L.ok FO O) q _ _ (fun v H1 wd1 s1 V q1 st1 S1 r1 => ?_) hX.ex
  refine byC fun no9 => ?_
  obtain ⟨y,rfl,_,q2⟩ := q1
  refine no9 ?_
  clear no9
  refine args_nil ⟨O.kinh S1,?_⟩
  have hroom : t.c.dp + 1 < recursionLimit := by have := O.room; lia
  refine made_sound KX hC O.c S1 hroom fun h' a tk hm => wpAny_bind (wpAny_standAt (wpAny_pure ?_))
  obtain ⟨d,u,hd⟩ := hm.there
  refine ⟨a,d,u,rfl,(O.kinh S1).keeps hm.keeps,hd,?_⟩
  exact hX C H1 t.m t.Y wd1 _ _ q2 (st1.trans .mk') ⟨S1.rb,a,rfl,.inl ⟨s1.heap,S1.fr,S1.nw,hm⟩⟩ fun _ h _ => h
end
section
variable {prog : Program} {w : World} {K : Frag} {p : Program} {loose : List Str} {mean : ExcName → Option Value} {mg mb : Str → Option Value} {D : Nat}
  {t : Cxt} {H : MH} {wd : Wd} {s : Shared} {X : Nat → MH → Prop} {Q : FL → Loc → MH → Prop} {Qr : Flow → Shared → Prop} {Er : Value → Shared → Prop}
theorem const_any {A : Around} {P : Params} {I : Led} {xs : List Addr} {v : AV} {k : Const} {n : Nat} {ps : Pos} {env : Env} {Q E : Value → Shared → Prop} (e : constIs v k = true) (q : ∀ V tk,Rs P I xs [v] [V] → Q V { s with toks := tk }) : wpAny (model prog w) A (eval (.Constant k n ps) env) Q E s := by
  cases v <;> first | exact falseX e | skip
  · cases constIs_n e; exact wpAny_Constant_none (q _ s.toks (.none .nil))
  · cases constIs_b e; exact wpAny_Constant_bool (q _ s.toks (.bool _ .nil))
  · cases constIs_i e; exact wpAny_Constant_int (q _ _ (.int _ _ .nil))
  · cases constIs_s e; exact Calls.Constant_str (q _ _ (.str _ _ .nil))
theorem s_try {f : EF} {n C : Nat} {e : IE} {v : AV} {e' : Expr} {x : Str} {k : Const} {cn : Nat} {pE np cp rp hp pos : Pos} (KO : KOk K) (KX : XOk K) (hf : ESound prog w K p loose mean mg mb false D f) (FO : FOk t) (O : Cxt.Ok K p loose mean mg mb D t)
    (hC : C = 59 ∨ C = 71 ∨ C = 83) (hg : t.sc.glob x = true) (hx : ftab.lookup x = some C) (he : chkE n t.sc e e' = true) (hn : notComp e' = true) (hk : constIs v k = true)
    (S : RepS t.c w.params t.m t.Y H wd s.heap) (L : LocS w t wd) (q : f e t.l H (fun _ H1 => Q .next t.l H1) (fun C' H1 => C' = C ∧ Q (.ret v) t.l H1)) (hQ : XQ w false t wd s Q Qr) :
    wpAny (model prog w) t.c.A (exec (.Try [.Expr e' pE] [.ExceptHandler (some (.Name x np)) none [.Return (some (.Constant k cn cp)) rp] hp] [] [] pos) t.env) Qr Er s := by
  have inter : interactive t.env = false := by unfold interactive; rw [O.fn]; rfl
  refine wpAny_Try_except ?_
  refine wpAny_execs_cons (wpAny_Expr_any ?_ inter (swaps_no hn))
  refine hf n e e' t he O H wd s _ _ S (L.ok FO O) q _ _ (fun u H1 wd1 s1 V q1 st1 S1 r1 => ?_) (fun cl H1 wd1 s1 ex q1 st1 rc => ?_)
  · exact wpAny_execs_nil (wpAny_execs_nil (hQ .next .next _ _ _ _ _ _ q1 (Aft.here S1 L st1) (by trivial)))
  refine byC fun no9 => ?_
  obtain ⟨rfl,q2⟩ := q1
  obtain ⟨⟨rb,dic,mr,nd,sp,ap⟩,a,G,rfl,FG,⟨B,a0,hB,hBG,hl,hfl⟩,hsm⟩ := rc
  obtain ⟨h1,h2⟩ := KO.fns x cl hx
  refine no9 ?_
  clear no9
  have hL : B.get? t.c.L = none := by
    obtain ⟨_,⟨L',_,hf,hn',_⟩,_⟩ := hfl.2.2.1
    obtain rfl : t.c.L = L' := Option.some.inj hf
    exact hn'
  have hfr : t.env.frame = some t.c.L := by rw [FO.env]
  refine wpAny_looks_onW (A := t.c.A) (L := t.c.L) (outer := t.c.outer) (by rw [FO.env]) hfr (by rw [FO.env]; exact hfl) fun h₄ hheld₄ hsm₄ => ?_
  refine wpAny_landsW hheld₄ fun h₅ hheld hsm₅' => ?_
  have hsm₅ := hsm₄.trans hsm₅'
  refine byC fun no9 => ?_
  obtain ⟨g₅,T₅,F₅,K₅⟩ := kts_ground (name := t.c.cn) (scope := t.c.cs) (a := t.c.a) (cd := t.c.ccd) rb FG hBG hheld.1 (hsm.trans hsm₅)
  have X₅ : K.In g₅ := O.c.kin.keeps K₅.stays
  have P₅ := topRead_of (O.c.top.keeps K₅.stays)
  obtain ⟨ob,hob,hobc⟩ := hheld.there
  obtain ⟨nm,q',N,bs,sn,sub,ab,col,dd,k0,k1,k2,k3,k5,hC⟩ := xc_cls X₅ (KX.cls cl hC).is
  refine no9 ?_
  clear no9
  have hC₅ := F₅.keep _ _ hC
  refine wpAny_handleBy_cons (codeAny_handlers_test (nameG_K F₅ X₅ P₅ h1 ?_ O.gl O.fn (O.kd x (glob_of hg).1) (nodebug (glob_of hg).2))) (by intro q; cases q)
  refine wpAny_excMatches_sub_self hC₅ hob hobc bmX_B (codeAny_handlers_suite ?_)
  refine lands_againW hheld fun h₆ hfl₆ hsm₆ => ?_
  refine byC fun no9 => ?_
  obtain ⟨g₆,T₆,F₆,K₆⟩ := kts_ground (name := t.c.cn) (scope := t.c.cs) (a := t.c.a) (cd := t.c.ccd) rb FG hBG hfl₆.1 ((hsm.trans hsm₅).trans hsm₆)
  refine no9 ?_
  clear no9
  have S6 : RepS t.c w.params t.m t.Y H1 { wd1 with g := g₆ } h₆ := ⟨K₆,dic.turn T₆,F₆,fun q hq => ⟨hfl₆.1 _ _ (hl q hq).1,(fun z => by have := (hl q hq).1; rw [z,hL] at this; exact noneX this),T₆.none_ _ (kts_none FG.keep (hl q hq).2.1)⟩,mr,nd,sp,ap⟩
  refine wpAny_execs_cons (wpAny_Return_some (const_any (P := w.params) (I := wd1.I) (xs := wd1.xs) hk fun V tk rV => ?_))
  have st6 : Step false t.c wd s { wd1 with g := g₆ } { s1 with heap := h₆,toks := tk } := st1.trans ⟨.mk,T₆,⟨fun _ h _ => h,fun _ _ h => h⟩,fun h => falseX h⟩
  exact hQ (.ret v) (.ret V) t.l H1 t.m t.Y _ { s1 with heap := h₆,toks := tk } q2 (Aft.here S6 L st6) rV
end
section
variable {ql : Bool} {prog : Program} {w : World} {K : Frag} {p : Program} {loose : List Str} {mean : ExcName → Option Value} {mg mb : Str → Option Value} {D : Nat}
  {t : Cxt} {H : MH} {wd : Wd} {s : Shared} {X : Nat → MH → Prop} {Q : FL → Loc → MH → Prop} {Qr : Flow → Shared → Prop} {Er : Value → Shared → Prop}
theorem s_while {fq : EF} {gq : SF} {n n2 : Nat} {c : IE} {c' : Expr} {b : List IS} {b' : List Stmt} {pos : Pos} (hf : BSound prog w K p loose mean mg mb true D fq) (hg : SSound prog w K p loose mean mg mb true D gq) (FO : FOk t) (O : Cxt.Ok K p loose mean mg mb D t)
    (hlp : t.sc.loops = true) (hc : chkE n t.sc c c' = true) (hb : chkS n2 t.sc b b' = true)
    (S : RepS t.c w.params t.m t.Y H wd s.heap) (L : LocS w t wd) (q : ∃ k,whileI fq gq c b X k t.l H Q) (hp : t.sc.loops = true → PassesOwn (model prog w) t.c.A t.env Er) (hQ : XQ w ql t wd s Q Qr) (hX : XS w ql t wd s X Er) :
    wpAny (model prog w) t.c.A (exec (.While c' b' [] pos) t.env) Qr Er s := by
  refine byC fun no9 => ?_
  obtain ⟨k,q⟩ := q
  refine no9 ?_
  clear no9
  refine wpAny_While ?_
  refine codeAny_whileLoop (R := fun r s' => match r with | .ok f => Qr f s' | .error e => cameBackBy (model prog w) t.c.A t.env Er e s')
    (fun k s' => ∃ l' H' m' Y' wd',whileI fq gq c b X k l' H' Q ∧ Aft w true t wd s l' H' m' Y' wd' s') ?_ k ⟨t.l,H,t.m,t.Y,wd,q,Aft.here S L (.refl ..)⟩
  rintro k s' ⟨l',H',m',Y',wd',q,aft⟩
  cases k with
  | zero => exact q.elim
  | succ k =>
    refine wpAny_passesOwn (hp hlp) ?_
    have q : fq c l' H' (fun v H1 => isB v fun z => brB z (gq b l' H1 (fun fl l2 H2 => match fl with
      | .next | .cont => whileI fq gq c b X k l2 H2 Q
      | .brk => Q .next l2 H2
      | .ret r => Q (.ret r) l2 H2) X) (Q .next l' H1)) X := q
    have XA : XS w true (t.to m' Y' l') wd' s' X Er := fun cl H3 m3 Y3 wd3 s3 e x st3 rc kk => hX cl H3 m3 Y3 wd3 s3 e x ((aft.st.trans st3).weak) rc fun q hq hd => kk q (aft.keep q hq hd) hd
    refine hf n c c' (t.to m' Y' l') hc O.to H' wd' s' (fun z H1 => brB z (gq b l' H1 (fun fl l2 H2 => match fl with
      | .next | .cont => whileI fq gq c b X k l2 H2 Q
      | .brk => Q .next l2 H2
      | .ret r => Q (.ret r) l2 H2) X) (Q .next l' H1)) X aft.S (LocS.ok FO.to O.to aft.L) q _ _ (fun z H1 wd1 s1 q1 st1 S1 => ?_) XA.ex
    have L1 : LocS w (t.to m' Y' l') wd1 := LocS.step aft.L st1
    have a1 : Aft w true t wd s l' H1 m' Y' wd1 s1 := aft.trans (Aft.here S1 aft.L st1)
    cases z with
    | false =>
      simp only [Bool.false_eq_true,if_false]
      exact wpAny_execs_nil (hQ .next .next _ _ _ _ _ _ (q1.2 rfl) a1.weak (by trivial))
    | true =>
      simp only [if_true]
      refine wpAny_passesOwn (hp hlp) ?_
      refine hg n2 b b' (t.to m' Y' l') hb O.to FO.to H1 wd1 s1 _ X S1 L1 (q1.1 rfl) _ Er hp (fun fl fV l3 H3 m3 Y3 wd3 s3 q3 a3 hfl => ?_) (XA.st st1)
      have a4 : Aft w true t wd s l3 H3 m3 Y3 wd3 s3 := aft.trans (Aft.stp st1 a3)
      cases fl with
      | next => cases flr_n hfl; exact ⟨k,Nat.lt_succ_self _,l3,H3,m3,Y3,wd3,q3,a4⟩
      | cont => cases flr_c hfl; exact ⟨k,Nat.lt_succ_self _,l3,H3,m3,Y3,wd3,q3,a4⟩
      | brk => cases flr_b hfl; exact hQ .next .next _ _ _ _ _ _ q3 a4.weak (by trivial)
      | ret r => obtain ⟨V9,rfl,hfl⟩ := flr_r hfl; exact hQ (.ret r) (.ret _) _ _ _ _ _ _ q3 a4.weak hfl
theorem inter_no (O : Cxt.Ok K p loose mean mg mb D t) : interactive t.env = false := by unfold interactive; rw [O.fn]; rfl
section
variable {fE : Sc → IE → Expr → Bool} {g : Sc → List IS → List Stmt → Bool} {sc : Sc} {st : Stmt}
theorem inv_asg {k : Nat} {c : Bool} {e : IE} (hc : chkSt fE g sc (.asg k c e) st = true) {CC : Stmt → Prop} (kk : ∀ x ps e' p,tgt1 sc k c (.Name x ps) = true → fE sc e e' = true → asgOk x ps c e' = true → CC (.Assign [.Name x ps] e' p)) : CC st :=
  by obtain ⟨z,h1,h⟩ := optB_some hc; exact let ⟨_,h2,h⟩ := optB_some h; let ⟨y,h3,h⟩ := optB_some h
  cps (by rw [asgD_eq h1,one1_eq h2,nameE_eq h3]) (kk y.1 y.2 z.2.1 z.2.2 ((and3 h).1) ((and3 h).2.1) ((and3 h).2.2))
theorem inv_asgT {ks : Ks} {sw : Bool} {e : IE} (hc : chkSt fE g sc (.asgT ks sw e) st = true) {CC : Stmt → Prop} (kk : ∀ es k q e' p,tgts sc ks es = true → fE sc e e' = true → notComp e' = true → (if sw then swapOk sc es e' else notTup e') = true → CC (.Assign [.Tuple es k q] e' p)) : CC st :=
  by obtain ⟨z,h1,h⟩ := optB_some hc; exact let ⟨_,h2,h⟩ := optB_some h; let ⟨y,h3,h⟩ := optB_some h
  cps (by rw [asgD_eq h1,one1_eq h2,tupE_eq h3]) (kk y.1 y.2.1 y.2.2 z.2.1 z.2.2 ((and4 h).1) ((and4 h).2.1) ((and4 h).2.2.1) ((and4 h).2.2.2))
theorem inv_asgI {o i e : IE} (hc : chkSt fE g sc (.asgI o i e) st = true) {CC : Stmt → Prop} (kk : ∀ o' i' q e' p,fE sc o o' = true → fE sc i i' = true → fE sc e e' = true → notComp e' = true → CC (.Assign [.Subscript o' i' q] e' p)) : CC st :=
  by obtain ⟨z,h1,h⟩ := optB_some hc; exact let ⟨_,h2,h⟩ := optB_some h; let ⟨y,h3,h⟩ := optB_some h
  cps (by rw [asgD_eq h1,one1_eq h2,subE_eq h3]) (kk y.1 y.2.1 y.2.2 z.2.1 z.2.2 ((and4 h).1) ((and4 h).2.1) ((and4 h).2.2.1) ((and4 h).2.2.2))
theorem inv_for {ks : Ks} {one : Bool} {it : IE} {b : List IS} (hc : chkSt fE g sc (.forS ks one it b) st = true) {CC : Stmt → Prop} (kk : ∀ tg it' b' p,sc.loops = true → tgt sc ks one tg = true → fE sc it it' = true → g sc b b' = true → notSet it' = true → ks.all (fun x => !x.2) = true → CC (.For tg it' b' [] p)) : CC st :=
  by obtain ⟨z,h1,h⟩ := optB_some hc; exact let ⟨p,e1⟩ := forD_eq h1; let h0 := (and2 h).1; let h := and3 (and2 h).2; let h2 := and4 h.1
  cps (by rw [e1,nil_of h0]) (kk z.1 z.2.1 z.2.2.1 p h2.1 h2.2.1 h2.2.2.1 h2.2.2.2 ((h.2).1) ((h.2).2))
theorem inv_forE {ki kv : Nat} {it : IE} {b : List IS} (hc : chkSt fE g sc (.forE ki kv it b) st = true) {CC : Stmt → Prop} (kk : ∀ x px y py k q z zp it' p2 b' p,sc.loops = true → tgts sc [(ki,false),(kv,false)] [.Name x px,.Name y py] = true → sc.glob z = true → z = "enumerate" → fE sc it it' = true → g sc b b' = true → CC (.For (.Tuple [.Name x px,.Name y py] k q) (.Call (.Name z zp) [it'] [] p2) b' [] p)) : CC st := by
  obtain ⟨z,h1,h⟩ := optB_some hc
  obtain ⟨p,e1⟩ := forD_eq h1
  have h0 := (and2 h).1
  obtain ⟨y,h2,h⟩ := optB_some (and2 h).2
  obtain ⟨es,h3,h⟩ := optB_some h
  obtain ⟨x1,h4,h⟩ := optB_some h
  obtain ⟨x2,h5,h⟩ := optB_some h
  obtain ⟨zz,zp,as,p2,e6,h⟩ := callN_eq h
  obtain ⟨it',h7,h⟩ := optB_some h
  have h := and4 h
  have g1 := and2 h.1
  have g2 := and2 h.2.1
  exact cps (by rw [e1,nil_of h0,tupE_eq h2,two2_eq h3,nameE_eq h4,nameE_eq h5,e6,one1_eq h7]) (kk x1.1 x1.2 x2.1 x2.2 y.2.1 y.2.2 zz zp it' p2 z.2.2.1 p g1.1 g1.2 g2.1 (beq_iff_eq.mp g2.2) ((h.2.2).1) ((h.2.2).2))
theorem inv_while {t : IE} {b : List IS} (hc : chkSt fE g sc (.whileS t b) st = true) {CC : Stmt → Prop} (kk : ∀ t' b' p,sc.loops = true → fE sc t t' = true → g sc b b' = true → CC (.While t' b' [] p)) : CC st :=
  by obtain ⟨z,h1,h⟩ := optB_some hc; exact let ⟨p,e1⟩ := whlD_eq h1
  cps (by rw [e1,nil_of (and2 h).1]) (kk z.1 z.2.1 p ((and3 (and2 h).2).1) ((and3 (and2 h).2).2.1) ((and3 (and2 h).2).2.2))
theorem inv_raise {C : Nat} {e : IE} (hc : chkSt fE g sc (.raise C e) st = true) {CC : Stmt → Prop} (kk : ∀ x np e' cp p,sc.glob x = true → ftab.lookup x = some C → (C == 59 || C == 71 || C == 83) = true → fE sc e e' = true → CC (.Raise (some (.Call (.Name x np) [e'] [] cp)) none p)) : CC st := by
  refine byC fun no9 => ?_
  obtain ⟨z,h1,h⟩ := optB_some hc
  obtain ⟨p,e1⟩ := raiD_eq h1
  have h0 := (and2 h).1
  obtain ⟨ex,h2,h⟩ := optB_some (and2 h).2
  obtain ⟨x,np,as,cp,e2,h⟩ := callN_eq h
  obtain ⟨a,h3,h⟩ := optB_some h
  refine no9 ?_
  clear no9
  have h := and4 h
  exact cps (by rw [e1,none_of h0,h2,e2,one1_eq h3]) (kk x np a cp p h.1 (beq_iff_eq.mp h.2.1) ((h.2.2).1) ((h.2.2).2))
theorem inv_try {e : IE} {C : Nat} {v : AV} (hc : chkSt fE g sc (.tryS e C v) st = true) :
    ∃ e' pE x np k cn cp rp hp p,st = .Try [.Expr e' pE] [.ExceptHandler (some (.Name x np)) none [.Return (some (.Constant k cn cp)) rp] hp] [] [] p ∧ sc.glob x = true ∧ ftab.lookup x = some C ∧ (C == 59 || C == 71 || C == 83) = true ∧ fE sc e e' = true ∧ notComp e' = true ∧ constIs v k = true := by
  refine byC fun no9 => ?_
  obtain ⟨z,h1,h⟩ := optB_some hc
  obtain ⟨p,e1⟩ := tryD_eq h1
  have h0 := and2 (and2 h).1
  obtain ⟨b,h2,h⟩ := optB_some (and2 h).2
  obtain ⟨hd,h3,h⟩ := optB_some h
  obtain ⟨e',g1,h⟩ := optB_some h
  obtain ⟨y,g2,h⟩ := optB_some h
  obtain ⟨r,g3,h⟩ := optB_some h
  obtain ⟨re,g4,h⟩ := optB_some h
  obtain ⟨k,g5,h⟩ := optB_some h
  obtain ⟨pE,g1⟩ := exD_eq g1
  obtain ⟨np,hp,g2⟩ := handD_eq g2
  obtain ⟨rp,g3⟩ := retD_eq g3
  obtain ⟨cn,cp,g5⟩ := conE_eq g5
  refine no9 ?_
  clear no9
  have h := and4 h
  have h5 := and3 h.2.2.2
  exact ⟨e',pE,y.1,np,k,cn,cp,rp,hp,p,by rw [e1,nil_of h0.1,nil_of h0.2,one1_eq h2,one1_eq h3,g1,g2,g3,g4,g5],h.1,beq_iff_eq.mp h.2.1,h.2.2.1,h5⟩
end
theorem s_one {fq f : EF} {gq g : SF} {n n2 : Nat} {ist : IS} {st : Stmt} (KO : KOk K) (KX : XOk K) (hD : 1 ≤ D) (hf : ESound prog w K p loose mean mg mb ql D f) (hu : USound prog w K p loose mean mg mb ql D f) (hb : BSound prog w K p loose mean mg mb ql D f) (hg : SSound prog w K p loose mean mg mb ql D g)
    (hqb : BSound prog w K p loose mean mg mb true D fq) (hqg : SSound prog w K p loose mean mg mb true D gq) (FO : FOk t) (O : Cxt.Ok K p loose mean mg mb D t) (hc : chkSt (chkE n) (chkS n2) t.sc ist st = true)
    (S : RepS t.c w.params t.m t.Y H wd s.heap) (L : LocS w t wd) (q : stepI ql fq gq f g ist t.l H Q X) (hp : t.sc.loops = true → PassesOwn (model prog w) t.c.A t.env Er) (hQ : XQ w ql t wd s Q Qr) (hX : XS w ql t wd s X Er) :
    wpAny (model prog w) t.c.A (exec st t.env) Qr Er s := by
  cases ist with
  | asg k c e =>
    exact inv_asg (CC := fun st => wpAny (model prog w) t.c.A (exec st t.env) Qr Er s) hc fun x ps e' p h1 h2 h3 => s_asg hf hu FO O h1 h2 h3 S L q hQ hX
  | asgT ks sw e =>
    refine inv_asgT (CC := fun st => wpAny (model prog w) t.c.A (exec st t.env) Qr Er s) hc fun es k q' e' p h1 h2 h3 h4 => ?_
    cases sw with
    | false => exact s_asgT hf FO O h1 h2 h3 h4 S L q hQ hX
    | true => exact s_asgTS hf FO O h1 h2 h3 h4 S L q hQ hX
  | asgI o i e =>
    refine inv_asgI (CC := fun st => wpAny (model prog w) t.c.A (exec st t.env) Qr Er s) hc fun o' i' q' e' p h1 h2 h3 h4 => ?_
    exact s_asgI hf FO O h1 h2 h3 h4 S L q hQ hX
  | iff c a b =>
    obtain ⟨⟨t',a',b'⟩,h1,h⟩ := optB_some hc
    obtain ⟨p,rfl⟩ := ifD_eq h1
    have h := and3 h
    exact s_iff hb hg FO O h.1 h.2.1 h.2.2 S L q hp hQ hX
  | forS ks one it b =>
    exact inv_for (CC := fun st => wpAny (model prog w) t.c.A (exec st t.env) Qr Er s) hc fun tg it' b' p h1 h2 h3 h4 h5 h6 => s_for hf hqg FO O h1 h2 h3 h5 h4 S L q hp hQ hX
  | whileS c b =>
    exact inv_while (CC := fun st => wpAny (model prog w) t.c.A (exec st t.env) Qr Er s) hc fun t' b' p h1 h2 h3 => s_while hqb hqg FO O h1 h2 h3 S L q hp hQ hX
  | ret e =>
    obtain ⟨z,h1,h⟩ := optB_some hc
    obtain ⟨p,rfl⟩ := retD_eq h1
    obtain ⟨e',rfl,hc⟩ := optB_some h
    refine wpAny_Return_some ?_
    refine hf n e e' t hc O H wd s _ X S (L.ok FO O) q _ _ (fun v H1 wd1 s1 V q1 st1 S1 r1 => ?_) hX.ex
    exact hQ (.ret v) (.ret V) _ _ _ _ _ _ q1 (Aft.here S1 L st1) r1
  | ex e =>
    obtain ⟨e',h1,h⟩ := optB_some hc
    obtain ⟨p,rfl⟩ := exD_eq h1
    have h := and2 h
    refine wpAny_Expr_any ?_ (inter_no O) (swaps_no h.2)
    refine hf n e e' t h.1 O H wd s _ X S (L.ok FO O) q _ _ (fun v H1 wd1 s1 V q1 st1 S1 r1 => ?_) hX.ex
    exact hQ .next .next _ _ _ _ _ _ q1 (Aft.here S1 L st1) (by trivial)
  | cont =>
    obtain ⟨p,h1,h⟩ := optB_some hc
    cases contD_eq h1
    exact wpAny_Continue (hQ .cont .cont _ _ _ _ _ _ q (Aft.here S L (.refl ..)) (by trivial))
  | raise C e =>
    exact inv_raise (CC := fun st => wpAny (model prog w) t.c.A (exec st t.env) Qr Er s) hc fun x np e' cp p h1 h2 h3 h4 => s_raise KO KX hf FO O hD (xcls_ok h3) h1 h2 h4 S L q hX
  | tryS e C v =>
    refine byC fun no9 => ?_
    obtain ⟨e',pE,x,np,k,cn,cp,rp,hp2,p,rfl,h1,h2,h3,h4,h5,h6⟩ := inv_try hc
    obtain ⟨rfl,q⟩ := q
    refine no9 ?_
    clear no9
    exact s_try KO KX hf FO O (xcls_ok h3) h1 h2 h4 h5 h6 S L q hQ
  | forE ki kv it b =>
    refine inv_forE (CC := fun st => wpAny (model prog w) t.c.A (exec st t.env) Qr Er s) hc fun x px y py k q' z zp it' p2 b' p h1 h2 h3 h4 h5 h6 => ?_
    exact s_forE KO hf hqg FO O h1 h2 h4 h3 h5 h6 S L q hp hQ hX
theorem s_step {fq f : EF} {gq g : SF} (KO : KOk K) (KX : XOk K) (hD : 1 ≤ D) (hf : ESound prog w K p loose mean mg mb ql D f) (hu : USound prog w K p loose mean mg mb ql D f) (hb : BSound prog w K p loose mean mg mb ql D f) (hg : SSound prog w K p loose mean mg mb ql D g)
    (hqb : BSound prog w K p loose mean mg mb true D fq) (hqg : SSound prog w K p loose mean mg mb true D gq) : SSound prog w K p loose mean mg mb ql D (stepS ql fq gq f g) := by
  intro n ib b t hc O FO H wd s Q X S L q Qr Er hp hQ hX
  cases n with
  | zero => exact falseX hc
  | succ n =>
    have hc : stepCS (chkE n) (chkS n) t.sc ib b = true := hc
    refine byC fun no9 => ?_
    cases ib with
    | nil =>
      refine no9 ?_
      clear no9
      cases b with
      | cons _ _ => exact falseX hc
      | nil => exact wpAny_execs_nil (hQ .next .next _ _ _ _ _ _ q (Aft.here S L (.refl ..)) (by trivial))
    | cons ist ib =>
      refine no9 ?_
      clear no9
      cases b with
      | nil => exact falseX hc
      | cons st b =>
        have h := and2 hc
        refine wpAny_execs_cons ?_
        have q : stepI ql fq gq f g ist t.l H (seqQ g ib Q X) X := q
        refine s_one KO KX hD hf hu hb hg hqb hqg FO O h.1 S L q hp (fun fl fV l' H' m' Y' wd' s' q1 a hfl => ?_) hX
        cases fl with
        | next =>
          cases flr_n hfl
          exact hg n ib b (t.to m' Y' l') h.2 O.to FO.to H' wd' s' Q X a.S a.L q1 Qr Er hp (XQ.on hQ a) (hX.on a)
        | cont => cases flr_c hfl; exact hQ .cont .cont _ _ _ _ _ _ q1 a (by trivial)
        | brk => cases flr_b hfl; exact hQ .brk .brk _ _ _ _ _ _ q1 a (by trivial)
        | ret r => obtain ⟨V9,rfl,hfl⟩ := flr_r hfl; exact hQ (.ret r) (.ret _) _ _ _ _ _ _ q1 a hfl
theorem zero_sound : ESound prog w K p loose mean mg mb ql D (fun _ _ _ _ _ => False) ∧ BSound prog w K p loose mean mg mb ql D (fun _ _ _ _ _ => False) ∧ USound prog w K p loose mean mg mb ql D (fun _ _ _ _ _ => False) ∧ SSound prog w K p loose mean mg mb ql D (fun _ _ _ _ _ => False) :=
  ⟨fun _ _ _ _ _ _ _ _ _ _ _ _ _ q => q.elim,fun _ _ _ _ _ _ _ _ _ _ _ _ _ q => q.elim,fun _ _ _ _ _ _ _ _ _ _ _ _ _ _ _ _ _ _ _ _ _ _ _ _ _ _ q => q.elim,fun _ _ _ _ _ _ _ _ _ _ _ _ _ _ q => q.elim⟩
theorem wpq_sound {T : Nat → Option Con} (KO : KOk K) (KX : XOk K) (hD : 1 ≤ D) (hT : TOk prog w K p loose mean mg mb true D T) : ∀ n,ESound prog w K p loose mean mg mb true D (wpq T n).1 ∧ BSound prog w K p loose mean mg mb true D (wpq T n).1 ∧ USound prog w K p loose mean mg mb true D (wpq T n).1 ∧ SSound prog w K p loose mean mg mb true D (wpq T n).2
  | 0 => zero_sound
  | n + 1 => by
    refine byC fun no9 => ?_
    obtain ⟨h1,h2,h3,h4⟩ := wpq_sound KO KX hD hT n
    refine no9 ?_
    clear no9
    exact ⟨e_step KO h1 h2 h1 h2 hT,b_step KO h1 h2 h1 h2 hT,u_step (T := T) h1 h1 h2,s_step KO KX hD h1 h3 h2 h4 h2 h4⟩
theorem wps_sound {Tq T : Nat → Option Con} (KO : KOk K) (KX : XOk K) (hD : 1 ≤ D) (hTq : TOk prog w K p loose mean mg mb true D Tq) (hT : TOk prog w K p loose mean mg mb false D T) : ∀ n,ESound prog w K p loose mean mg mb false D (wps Tq T n).1 ∧ BSound prog w K p loose mean mg mb false D (wps Tq T n).1 ∧ USound prog w K p loose mean mg mb false D (wps Tq T n).1 ∧ SSound prog w K p loose mean mg mb false D (wps Tq T n).2
  | 0 => zero_sound
  | n + 1 => by
    refine byC fun no9 => ?_
    obtain ⟨h1,h2,h3,h4⟩ := wps_sound KO KX hD hTq hT n
    obtain ⟨k1,k2,k3,k4⟩ := wpq_sound KO KX hD hTq n
    refine no9 ?_
    clear no9
    exact ⟨e_step KO k1 k2 h1 h2 hT,b_step KO k1 k2 h1 h2 hT,u_step (T := T) h1 k1 k2,s_step KO KX hD h1 h3 h2 h4 k2 k4⟩
end
section
variable {M : Model} {c : FrameCx} {P : Params} {m : Str → Option Value} {X : Led} {H : MH} {wd : Wd} {cl : Nat} {e : Value} {s : Shared} {E : Value → Shared → Prop} {Q : Unit → Shared → Prop}
theorem leave_out (hk : c.cs.kind = .function) (R : RCS c P m X H wd cl e s.heap)
    (hQ : ∀ a h',e = .ref a → FlyS c.base wd.g c.outer a cl (wd.all X) h' → wd.g.UpToSlots h' → Q () { s with heap := h' }) : wpAny M c.A (leaving c.env e) Q E s := by
  obtain ⟨RB0,a,rfl,⟨h0,F,N,hm⟩ | ⟨G,FG,⟨B,a0,hB,hBG,hl,hfl⟩,hsm⟩⟩ := R
  · have K := RB0.below
    have K' : Below (c.A₀.deeper c.env) c.base (c.env :: c.outer) h0 := pushX K F rfl hk
    have mem : ∀ {b},b ∈ (c.env :: c.outer).filterMap (·.frame) → b = c.L ∨ b ∈ c.outer.filterMap (·.frame) := fun {b} hb => by
      rcases List.mem_cons.mp (show b ∈ c.L :: c.outer.filterMap (·.frame) from hb) with h | h
      · exact .inl h
      · exact .inr h
    have hin : ∀ env ∈ (c.env :: c.outer),∀ b,env.frame = some b → b ∈ (c.env :: c.outer).filterMap (·.frame) := fun env he b hb => List.mem_filterMap.mpr ⟨env,he,hb⟩
    have st : c.base.StaysIn (hideAll h0 ((c.env :: c.outer).filterMap (·.frame))) := fun b o q => hideAll_get _ (K'.stays b o q) fun hm => by
      rw [(K'.frames.mem hm).1] at q; exact noneX q
    have sg : ∀ b o,wd.g.get? b = some o → b ∉ c.outer.filterMap (·.frame) → (hideAll h0 ((c.env :: c.outer).filterMap (·.frame))).get? b = some o := fun b o q nm => hideAll_get _ (F.keep b o q) fun hm => by
      rcases mem hm with z | z
      · rw [z,kts_self F] at q
        exact noneX q
      · exact nm z
    have hl : ∀ q ∈ wd.all X,(hideAll h0 ((c.env :: c.outer).filterMap (·.frame))).get? q.1 = some q.2 ∧ wd.g.get? q.1 = none ∧ c.base.get? q.1 = none := fun q hq => by
      refine ⟨hideAll_get _ (N q hq).1 fun hm => ?_,(N q hq).2.2,fresh_of_stays K.stays (N q hq).2.2⟩
      rcases mem hm with z | z
      · exact (N q hq).2.1 z
      · obtain ⟨o,ho,_⟩ := (K.frames.mem z).2
        rw [(N q hq).2.2] at ho; exact noneX ho
    have hne : (hideAll h0 ((c.env :: c.outer).filterMap (·.frame))).get? a = none := by
      cases q : (hideAll h0 ((c.env :: c.outer).filterMap (·.frame))).get? a with
      | none => rfl
      | some o => have := of_hideAll _ q; rw [hm.new] at this; exact noneX this
    obtain ⟨d,t,ht⟩ := hm.there
    refine wpAny_leaving_firstW (A := c.A) (base := hideAll h0 ((c.env :: c.outer).filterMap (·.frame))) (outer := c.outer) (L := c.L) (a0 := .ref t) rfl ((funFrames_hide K'.frames hin).of_keeps fun b o hb _ => ⟨o,hm.keeps b o hb,rfl⟩) rfl ht (fun b o hb => hm.keeps b o (of_hideAll _ hb)) hne rfl rfl rfl fun h' hL => ?_
    refine byC fun no9 => ?_
    obtain ⟨k1,⟨_,_,k2⟩,k3,k4⟩ := hL
    refine no9 ?_
    clear no9
    exact hQ a h' rfl ⟨_,_,st,sg,hl,k1,hne,k2,k3⟩ (((Heap.UpToSlots.of_keeps F.keep).trans (Heap.UpToSlots.of_keeps hm.keeps)).trans k4)
  · refine wpAny_leaves_onW (A := c.A) (L := c.L) rfl rfl hfl fun h' x1 x2 => ?_
    refine hQ a h' rfl ⟨B,a0,hB,fun b o q nm => hBG b o (FG.keep b o q) (fun hm => ?_),fun q hq => ⟨(hl q hq).1,kts_none FG.keep (hl q hq).2.1,(hl q hq).2.2⟩,x1⟩ ((Heap.UpToSlots.of_keeps FG.keep).trans (hsm.trans x2))
    rcases List.mem_cons.mp (show b ∈ c.L :: c.outer.filterMap (·.frame) from hm) with z | z
    · rw [z,kts_self FG] at q
      exact noneX q
    · exact nm z
end
theorem rc_back {c c' : FrameCx} {P : Params} {m : Str → Option Value} {Y Y2 : Led} {H2 : MH} {wd wd2 : Wd} {s s2 : Shared} {g0 : Heap} {cl : Nat} {e : Value} {a : Addr} {h' : Heap} {ql : Bool}
    (hb : c'.base = c.base) (ho : c'.outer = c.env :: c.outer) (Bw : Below c.A₀ c.base c.outer wd.g) (D0 : KtsDicts c.frs wd.g) (FG : Fr wd.g c.L g0 m) (hI : ∀ q ∈ wd.I,¬ Tb q → q ∈ wd2.I) (hpre : ∀ (i : Nat) (b : Addr),wd.xs[i]? = some b → wd2.xs[i]? = some b)
    (T : KtsTurn c'.frs g0 wd2.g) (hst : ql = true → wd2.g = g0) (hs : Same s s2) (R : RB c' P Y2 H2 wd2) (kY : ∀ q ∈ Y,q ∈ Y2) (he : e = .ref a) (hF : FlyS c'.base wd2.g c'.outer a cl (wd2.all Y2) h') (hu : wd2.g.UpToSlots h') :
    ∃ wd3,Step ql c wd s wd3 { s2 with heap := h' } ∧ RC c P m Y H2 wd3 cl e h' := by
  refine byC fun no9 => ?_
  obtain ⟨dp,un,gd,cn,cs,L,a1,ccd,cl1,out,A0,base⟩ := c'
  refine no9 ?_
  clear no9
  dsimp only at hb ho
  subst hb ho
  refine byC fun no9 => ?_
  obtain ⟨g₂,T2,F2,B2,D2,hs2⟩ := ground_back (h := wd2.g) Bw FG T D0 (fun _ _ e => e) ql hst
  refine no9 ?_
  clear no9
  refine ⟨{ I := wd2.I,Mo := wd2.Mo,g := g₂ },⟨hs.trans .hp,T2,⟨hI,hpre⟩,hs2⟩,⟨B2,D2,R.mr,R.nd,fun e he q hq => R.sp e he q ?_,fun q hq x hx => R.ap q hq x (kY x hx)⟩,a,wd2.g,he,F2,?_,hu⟩
  · rcases List.mem_append.mp hq with h | h
    · exact List.mem_append_left _ h
    · exact List.mem_append_right _ (kY q h)
  · obtain ⟨B,a0,f1,f2,f3,f4⟩ := hF
    refine ⟨B,a0,f1,f2,fun q hq => f3 q ?_,f4⟩
    rcases List.mem_append.mp hq with h | h
    · exact List.mem_append_left _ h
    · rcases List.mem_append.mp h with h | h
      · exact List.mem_append_right _ (List.mem_append_left _ h)
      · exact List.mem_append_right _ (List.mem_append_right _ (kY q h))
theorem cellsFrom_addr : ∀ {names : List (Str × NameKind)} {n : Nat} {acc : List (Str × Addr)},(∀ q ∈ acc,q.2 < n) → (acc.map (·.2)).Nodup → ((cellsFrom n names acc).map (·.2)).Nodup
  | [],_,_,_,h => h
  | (x,k) :: r,n,acc,h1,h2 => by
    rw [cellsFrom]
    split
    · refine cellsFrom_addr (fun q hq => ?_) ?_
      · rcases List.mem_cons.mp hq with rfl | hq
        · exact Nat.lt_succ_self _
        · exact Nat.lt_succ_of_lt (h1 q hq)
      · rw [List.map_cons,List.nodup_cons]
        refine ⟨fun hm => ?_,h2⟩
        obtain ⟨q,hq,e⟩ := List.mem_map.mp hm
        exact absurd (h1 q hq) (by rw [e]; exact Nat.lt_irrefl _)
    · exact cellsFrom_addr h1 h2
theorem cells_at {cm : Str → Option Value} {x : Str} {a : Addr} {cs : List (Str × Addr)} {cells : Led} (r : CellsAre cm cs cells) (h : (x,a) ∈ cs) : ∃ o,(a,o) ∈ cells ∧ o.data = .cell (cm x) := by
  induction r with
  | nil => exact (List.not_mem_nil h).elim
  | cons hd r ih =>
    rcases List.mem_cons.mp h with e | h
    · cases e
      exact ⟨_,.head _,hd⟩
    · obtain ⟨o,h1,h2⟩ := ih h
      exact ⟨o,.tail _ h1,h2⟩
theorem cells_addrs {cm : Str → Option Value} {cs : List (Str × Addr)} {cells : Led} (r : CellsAre cm cs cells) : cells.map (·.1) = cs.map (·.2) := by
  induction r with
  | nil => rfl
  | cons _ r ih => rw [List.map_cons,List.map_cons,ih]
theorem lookup_memA {x : Str} {a : Addr} : ∀ {l : List (Str × Addr)},l.lookup x = some a → (x,a) ∈ l
  | [],h => noneX h
  | (n,j) :: r,h => by
    rw [List.lookup] at h
    split at h
    · rename_i hb; cases h; rw [eq_of_beq hb]; exact .head _
    · exact .tail _ (lookup_memA h)
noncomputable def isFull (q : Addr × Obj) : Bool := match q.2.data with
  | .cell (some _) => true
  | _ => false
structure DefOk (K : Frag) (sc : Sc) (ps : List Str) (f : Nat) (params : Arguments) (scope : Scope) (body : List Stmt) (n : Nat) (ib : List IS) (name qual : Str) (dV kV doc pm cdv ct : Value) (an : Option Addr) : Prop where
  at_ : ∃ oc od osl,K.lookup f = some ⟨oc,od,.func (fnOf name qual params body scope dV kV doc pm an cdv ct),osl⟩
  code : codeIn K cdv qual = true
  bind : ∀ vs : List Value,vs.length = ps.length → bindArgs (fnOf name qual params body scope dV kV doc pm an cdv ct) ⟨vs,[]⟩ = pure (ps.zip vs)
  names : sc.names = scope.names
  cells : ∀ x ∈ sc.cells,scope.names.lookup x = some .cell
  locs : ∀ x ∈ sc.slots,x ∉ sc.cells → scope.names.lookup x = some .local
  db : ∀ x ∈ sc.slots,notDebug x = true
  nd : sc.slots.Nodup
  pre : sc.slots.take ps.length = ps
  cnd : ((cellsFrom 0 scope.names []).map (·.1)).Nodup
  co : scope.isCoroutine = false
  gen : scope.isGenerator = false
  kd : scope.kind = .function
  lp : sc.loops = true
  tab : ∀ cd P,sc.tab = some (cd,P) → cdv = .ref cd ∧ codeHdIn K cd P = true ∧ (P = 640 ∨ P = 645) ∧ qual ++ ".<locals>." ++ "<lambda>" = tabQ P
  chk : chkS n sc ib body = true
structure BodyOk (K : Frag) (sc : Sc) (ps : List Str) (scope : Scope) (body : List Stmt) (n : Nat) (ib : List IS) (qual : Str) (cdv : Value) : Prop where
  names : sc.names = scope.names
  cells : ∀ x ∈ sc.cells,scope.names.lookup x = some .cell
  locs : ∀ x ∈ sc.slots,x ∉ sc.cells → scope.names.lookup x = some .local
  db : ∀ x ∈ sc.slots,notDebug x = true
  nd : sc.slots.Nodup
  pre : sc.slots.take ps.length = ps
  cnd : ((cellsFrom 0 scope.names []).map (·.1)).Nodup
  kd : scope.kind = .function
  lp : sc.loops = true
  tab : ∀ cd P,sc.tab = some (cd,P) → cdv = .ref cd ∧ codeHdIn K cd P = true ∧ (P = 640 ∨ P = 645) ∧ qual ++ ".<locals>." ++ "<lambda>" = tabQ P
  chk : chkS n sc ib body = true
theorem DefOk.toBody {K : Frag} {sc : Sc} {ps : List Str} {f : Nat} {params : Arguments} {scope : Scope} {body : List Stmt} {n : Nat} {ib : List IS} {name qual : Str} {dV kV doc pm cdv ct : Value} {an : Option Addr} (D : DefOk K sc ps f params scope body n ib name qual dV kV doc pm cdv ct an) : BodyOk K sc ps scope body n ib qual cdv :=
  ⟨D.names,D.cells,D.locs,D.db,D.nd,D.pre,D.cnd,D.kd,D.lp,D.tab,D.chk⟩
section
variable {ql : Bool} {prog : Program} {w : World} {K : Frag} {p : Program} {loose : List Str} {mean : ExcName → Option Value} {mg mb : Str → Option Value} {D : Nat}
noncomputable def bodyCon (g : SF) (sc : Sc) (ps : List Str) (ib : List IS) : Con := fun args H Q X =>
  args.length = ps.length ∧ g ib (args.map some ++ List.replicate (sc.slots.length - ps.length) none) H (fun fl _ H' => match fl with | .ret v => Q v H' | .next => Q .none H' | _ => False) X
theorem lookup_nodup {x : Str} {a : Addr} {l : List (Str × Addr)} (nd : (l.map (·.1)).Nodup) (h : (x,a) ∈ l) : l.lookup x = some a := lookup_of_mem_nodup nd h
theorem lookup_ex {x : Str} {l : List (Str × Addr)} (h : x ∈ l.map (·.1)) : ∃ a,(x,a) ∈ l := by
  obtain ⟨q,hq,rfl⟩ := List.mem_map.mp h
  exact ⟨q.2,hq⟩
noncomputable abbrev frameOf (dp un : Nat) (gd : Option (List Code)) (qual : Str) (scope : Scope) (L' : Addr) (f : Addr) (cdv : Value) (outer : List Env) (A₀ : Around) (base : Heap) : FrameCx :=
  { dp := dp,un := un,gd := gd,cn := qual,cs := scope,L := L',a := f,ccd := cdv,cl := cellsFrom (L' + 1) scope.names [],outer := outer,A₀ := A₀,base := base }
theorem cell_at {sc : Sc} {ps : List Str} {scope : Scope} {body : List Stmt} {n : Nat} {ib : List IS} {qual : Str} {cdv : Value} (DO : BodyOk K sc ps scope body n ib qual cdv) (L' : Addr) : ∀ x ∈ sc.cells,∃ a,(cellsFrom (L' + 1) scope.names []).lookup x = some a ∧ (x,a) ∈ cellsFrom (L' + 1) scope.names [] := by
  intro x hx
  have h1 := kindsX (scope := scope) (binds := [(x,.none)]) (by simp [DO.cells x hx]) (L' + 1) (x,.none) (.head _)
  rcases h1 with h1 | ⟨_,h1⟩
  · rw [DO.cells x hx] at h1; cases Option.some.inj h1
  · obtain ⟨a,ha⟩ := Option.isSome_iff_exists.mp h1
    exact ⟨a,ha,Mine.Internal.lookup_memA ha⟩
theorem entry_ok {sc : Sc} {ps : List Str} {f : Nat} {scope : Scope} {body : List Stmt} {n : Nat} {ib : List IS} {qual : Str} {cdv : Value} (DO : BodyOk K sc ps scope body n ib qual cdv) {dp un : Nat} {gd : Option (List Code)} {outer : List Env} {A₀ : Around} {base g0 h₁ : Heap} {L' : Addr} {cells : Led} {Y : Led} {wd : Wd} {H : MH} {args : List AV} {vs : List Value}
    (Okin : K.In base) (Otop : Top p loose mean mg mb base) (hroom : dp + D < recursionLimit) (hun : un + 8 * D + 200 < cLine) (hal : args.length = ps.length) (r : wd.rep w.params args vs)
    (mr : MoR w.params wd.I H wd.Mo) (nd : wd.xs.Nodup) (sp : ∀ e ∈ wd.Mo,∀ q ∈ wd.I ++ Y,q.1 ≠ e.1) (ap : ∀ q ∈ wd.I,∀ x ∈ Y,q.1 ≠ x.1)
    (B' : Below A₀ base outer g0) (dic : KtsDicts (outer.filterMap (·.frame)) g0) (F' : Fr g0 L' h₁ (bindL (envOfC qual scope L' f cdv).kindOf (ps.zip vs) fun _ => none)) (N' : News g0 L' h₁ (cells ++ wd.all Y))
    (Y' : CellsAre (bindC (envOfC qual scope L' f cdv).kindOf (ps.zip vs) fun _ => none) (cellsFrom (L' + 1) scope.names []) cells) (cell_ne : ∀ q ∈ cells,∀ z ∈ wd.all Y,q.1 ≠ z.1) :
    ∃ t wd',t.c = frameOf dp un gd qual scope L' f cdv outer A₀ base ∧ t.env = t.c.env ∧ t.sc = sc ∧ t.Y = cells.filter (fun q => !isFull q) ++ Y ∧ t.l = args.map some ++ List.replicate (sc.slots.length - ps.length) none ∧ wd' = { I := cells.filter isFull ++ wd.I,Mo := wd.Mo,g := g0 } ∧
      RepS t.c w.params t.m t.Y H wd' h₁ ∧ Cxt.Ok K p loose mean mg mb D t ∧ FOk t ∧ LocS w t wd' := by
  have hvl : vs.length = ps.length := by rw [r.length,hal]
  have hpn : ps.Nodup := by rw [← DO.pre]; exact DO.nd.sublist (List.take_sublist _ _)
  have hzip1 : (ps.zip vs).map (·.1) = ps := by rw [List.map_fst_zip]; lia
  let c' : FrameCx := frameOf dp un gd qual scope L' f cdv outer A₀ base
  have hkind : ∀ x,(envOfC qual scope L' f cdv).kindOf x = scope.names.lookup x := fun _ => rfl
  have hcnd : ((cellsFrom (L' + 1) scope.names []).map (·.1)).Nodup := by
    have e := cellsFrom_names scope.names 0 (L' + 1) [] [] rfl
    rw [← e]; exact DO.cnd
  have hand : ((cellsFrom (L' + 1) scope.names []).map (·.2)).Nodup := cellsFrom_addr (fun _ h => (List.not_mem_nil h).elim) .nil
  have hcell := cell_at DO L'
  have hcel2 : ∀ q ∈ cells,∀ q' ∈ cells,q.1 = q'.1 → q = q' := by
    intro q hq q' hq' e
    have e1 := (N' q (List.mem_append_left _ hq)).1
    have e2 := (N' q' (List.mem_append_left _ hq')).1
    rw [e,e2] at e1
    exact Prod.ext e (Option.some.inj e1).symm
  let fl := cells.filter isFull
  let em := cells.filter (fun q => !isFull q)
  have hfl : ∀ q ∈ fl,q ∈ cells := fun q hq => (List.mem_filter.mp hq).1
  have hem : ∀ q ∈ em,q ∈ cells := fun q hq => (List.mem_filter.mp hq).1
  let wd' : Wd := { I := fl ++ wd.I,Mo := wd.Mo,g := g0 }
  let t : Cxt := { c := c',env := c'.env,sc := sc,m := bindL (envOfC qual scope L' f cdv).kindOf (ps.zip vs) fun _ => none,Y := em ++ Y,l := args.map some ++ List.replicate (sc.slots.length - ps.length) none }
  have S' : RepS c' w.params t.m t.Y H wd' h₁ := by
    refine ⟨B',?_,F',fun q hq => N' q ?_,mr.mono fun q hq => List.mem_append_right _ hq,nd,fun e he q hq => ?_,fun q hq x hx => ?_⟩
    · exact dic
    · have hq : q ∈ (fl ++ wd.I) ++ (wd.Mo ++ (em ++ Y)) := hq
      simp only [List.mem_append] at hq ⊢
      rcases hq with (h | h) | h | h | h
      · exact .inl (hfl q h)
      · exact .inr (by simp [h])
      · exact .inr (by simp [h])
      · exact .inl (hem q h)
      · exact .inr (by simp [h])
    · have hq : q ∈ (fl ++ wd.I) ++ (em ++ Y) := hq
      have he' : e ∈ wd.all Y := by simp [show e ∈ wd.Mo from he]
      simp only [List.mem_append] at hq
      rcases hq with (h | h) | h | h
      · exact cell_ne q (hfl q h) e he'
      · exact sp e he q (by simp [h])
      · exact cell_ne q (hem q h) e he'
      · exact sp e he q (by simp [h])
    · have hq : q ∈ fl ++ wd.I := hq
      have hx : x ∈ em ++ Y := hx
      rcases List.mem_append.mp hq with hq | hq <;> rcases List.mem_append.mp hx with hx | hx
      · intro e
        have := hcel2 q (hfl q hq) x (hem x hx) e
        subst this
        have h1 := (List.mem_filter.mp hq).2
        have h2 := (List.mem_filter.mp hx).2
        rw [h1] at h2; exact falseX h2
      · exact cell_ne q (hfl q hq) x (by simp [hx])
      · exact fun e => cell_ne x (hem x hx) q (by simp [hq]) e.symm
      · exact ap q hq x hx
  have O' : Cxt.Ok K p loose mean mg mb D t := by
    refine ⟨⟨Okin,Otop,DO.kd⟩,rfl,rfl,DO.kd,fun x hx => ?_,fun x hx => ?_,?_,fun cd P h => ⟨rfl,DO.tab cd P h⟩,?_⟩
    · show scope.names.lookup x = _
      rw [← DO.names]; exact hx
    · obtain ⟨a,ha,_⟩ := hcell x hx
      exact ⟨rfl,DO.cells x hx,a,ha⟩
    · exact hroom
    · exact hun
  have FO : FOk t := by
    refine ⟨rfl,fun x hx hc => DO.locs x hx hc,DO.db,DO.nd,fun x hx y hy a e1 e2 => ?_⟩
    obtain ⟨a1,h1,h2⟩ := hcell x hx
    obtain ⟨a2,h3,h4⟩ := hcell y hy
    have e1 : (cellsFrom (L' + 1) scope.names []).lookup x = some a := e1
    have e2 : (cellsFrom (L' + 1) scope.names []).lookup y = some a := e2
    rw [h1] at e1; cases e1
    rw [h3] at e2; cases Option.some.inj e2
    have pw := List.pairwise_iff_getElem.mp hand
    obtain ⟨i,hi,ei⟩ := List.mem_iff_getElem.mp h2
    obtain ⟨j,hj,ej⟩ := List.mem_iff_getElem.mp h4
    have key : ∀ i j (hi : i < (cellsFrom (L' + 1) scope.names []).length) (hj : j < (cellsFrom (L' + 1) scope.names []).length),i < j → (cellsFrom (L' + 1) scope.names [])[i] = (x,a) → (cellsFrom (L' + 1) scope.names [])[j] = (y,a) → False := by
      intro i j hi hj hij ei ej
      have := pw i j (by simpa using hi) (by simpa using hj) hij
      rw [List.getElem_map,List.getElem_map,ei,ej] at this
      exact this rfl
    have key2 : ∀ i j (hi : i < (cellsFrom (L' + 1) scope.names []).length) (hj : j < (cellsFrom (L' + 1) scope.names []).length),i < j → (cellsFrom (L' + 1) scope.names [])[i] = (y,a) → (cellsFrom (L' + 1) scope.names [])[j] = (x,a) → False := by
      intro i j hi hj hij ei ej
      have := pw i j (by simpa using hi) (by simpa using hj) hij
      rw [List.getElem_map,List.getElem_map,ei,ej] at this
      exact this rfl
    rcases Nat.lt_trichotomy i j with h | h | h
    · exact (key i j hi hj h ei ej).elim
    · subst h
      rw [ei] at ej
      exact (Prod.ext_iff.mp ej).1
    · exact (key2 j i hj hi h ej ei).elim
  have hlen : sc.slots.length ≥ ps.length := by rw [← DO.pre,List.length_take]; exact Nat.min_le_right _ _
  have hlook : ∀ (k : Nat) (x : Str),sc.slots[k]? = some x → k < ps.length → ps[k]? = some x := by
    intro k x hx hk
    rw [← DO.pre,List.getElem?_take_of_lt hk]; exact hx
  have L' : LocS w t wd' := by
    refine ⟨?_,fun k v e => ?_,fun k x hx hxc e => ?_⟩
    · show (args.map some ++ List.replicate (sc.slots.length - ps.length) none).length = sc.slots.length
      rw [List.length_append,List.length_map,List.length_replicate,hal]; exact Nat.add_sub_cancel' hlen
    · have e : (args.map some ++ List.replicate (sc.slots.length - ps.length) none)[k]? = some (some v) := e
      refine byC fun no9 => ?_
      by_cases hk : k < args.length
      · refine no9 ?_
        clear no9
        rw [List.getElem?_append_left (by simpa using hk),List.getElem?_map] at e
        have ha : args[k]? = some v := by
          cases h : args[k]? with
          | none => rw [h] at e; exact noneX e
          | some z => rw [h] at e; simpa using e
        refine byC fun no9 => ?_
        obtain ⟨V,hV,rV⟩ := r.get ha
        refine no9 ?_
        clear no9
        have hks : k < sc.slots.length := by lia
        have hx : sc.slots[k]? = some sc.slots[k] := List.getElem?_eq_getElem hks
        have hp : ps[k]? = some sc.slots[k] := hlook k _ hx (by lia)
        have hz : (sc.slots[k],V) ∈ ps.zip vs := by
          refine List.mem_of_getElem? (i := k) ?_
          rw [List.getElem?_zip_eq_some]
          exact ⟨hp,hV⟩
        refine ⟨sc.slots[k],V,hx,rV.mono (fun q hq => List.mem_append_right _ hq) (fun _ _ h => h),fun hc => ?_,fun hc => ?_⟩
        · exact bindL_get (DO.locs _ (List.getElem_mem hks) hc) (by rw [hzip1]; exact hpn) hz
        · obtain ⟨a,ha,hm⟩ := hcell _ hc
          obtain ⟨o,ho,hd⟩ := cells_at Y' hm
          have hcm : bindC (envOfC qual scope L' f cdv).kindOf (ps.zip vs) (fun _ => none) sc.slots[k] = some V := bindC_get (by rw [hkind,DO.cells _ hc]; exact fun h => nomatch h) (by rw [hzip1]; exact hpn) hz
          rw [hcm] at hd
          exact ⟨a,o,ha,List.mem_append_left _ (List.mem_filter.mpr ⟨ho,by simp [isFull,hd]⟩),hd⟩
      · refine no9 ?_
        clear no9
        rw [List.getElem?_append_right (by simpa using Nat.not_lt.mp hk),List.getElem?_replicate] at e
        split at e <;> cases e
    · have e : (args.map some ++ List.replicate (sc.slots.length - ps.length) none)[k]? = some none := e
      have hk : ¬ k < args.length := by
        intro hk
        rw [List.getElem?_append_left (by simpa using hk),List.getElem?_map] at e
        cases h : args[k]? with
        | none => rw [h] at e; exact noneX e
        | some z => rw [h] at e; cases Option.some.inj e
      have hnp : x ∉ ps := by
        intro hm
        obtain ⟨j,hj⟩ := List.mem_iff_getElem?.mp hm
        have hjl : j < ps.length := (List.getElem?_eq_some_iff.mp hj).1
        rw [← DO.pre,List.getElem?_take_of_lt hjl] at hj
        obtain ⟨h1,h2⟩ := List.getElem?_eq_some_iff.mp hj
        obtain ⟨h3,h4⟩ := List.getElem?_eq_some_iff.mp hx
        have pw := List.pairwise_iff_getElem.mp DO.nd
        exact pw j k h1 h3 (by lia) (h2.trans h4.symm)
      refine byC fun no9 => ?_
      obtain ⟨a,ha,hm⟩ := hcell _ hxc
      obtain ⟨o,ho,hd⟩ := cells_at Y' hm
      refine no9 ?_
      clear no9
      rw [bindC_not (by rw [hzip1]; exact hnp)] at hd
      exact ⟨a,o,ha,List.mem_append_left _ (List.mem_filter.mpr ⟨ho,by simp [isFull,hd]⟩),hd⟩
  exact ⟨t,wd',rfl,rfl,rfl,rfl,rfl,rfl,S',O',FO,L'⟩
theorem def_sound {g : SF} {sc : Sc} {ps : List Str} {f : Nat} {params : Arguments} {scope : Scope} {body : List Stmt} {n : Nat} {ib : List IS} {name qual : Str} {dV kV doc pm cdv ct : Value} {an : Option Addr}
    (hg : SSound prog w K p loose mean mg mb ql D g) (DO : DefOk K sc ps f params scope body n ib name qual dV kV doc pm cdv ct an) : Sound prog w K p loose mean mg mb ql f (D + 1) (bodyCon g sc ps ib) := by
  intro c args H Q X m Y wd s vs Qr Er O hC S r hroom hun hK hX
  refine byC fun no9 => ?_
  obtain ⟨hal,hb⟩ := hC
  have hvl : vs.length = ps.length := by rw [r.length,hal]
  obtain ⟨oc,od,osl,ho⟩ := DO.at_
  refine no9 ?_
  clear no9
  have hkn : K.In wd.g := S.kin O.kin
  have hpn : ps.Nodup := by rw [← DO.pre]; exact DO.nd.sublist (List.take_sublist _ _)
  have hzip1 : (ps.zip vs).map (·.1) = ps := by rw [List.map_fst_zip]; lia
  have hpk : ∀ x ∈ ps,x ∈ sc.slots := fun x hx => by
    have h : x ∈ sc.slots.take ps.length := by rw [DO.pre]; exact hx
    exact List.mem_of_mem_take h
  refine enterR S.below S.fr hkn S.nw (O.top.keeps S.below.stays) rfl rfl O.fn ho DO.code ?_ (BindsTo.of_eq (DO.bind vs hvl)) ?_ DO.cnd ?_ DO.co DO.gen DO.kd
  · show c.dp < recursionLimit
    lia
  · rw [List.all_eq_true]
    intro y hy
    have hy1 : y.1 ∈ ps := by rw [← hzip1]; exact List.mem_map_of_mem hy
    by_cases hc : y.1 ∈ sc.cells
    · rw [DO.cells _ hc]; rfl
    · rw [DO.locs _ (hpk _ hy1) hc]; rfl
  intro g0 L' h₁ tk cells FG F' N' Y' B' X' T' hlt hgt hold
  have cell_ne : ∀ q ∈ cells,∀ z ∈ wd.all Y,q.1 ≠ z.1 := fun q hq z hz => Nat.ne_of_gt (Nat.lt_trans (hlt z hz) (hgt q hq))
  have dic' : KtsDicts ((c.env :: c.outer).filterMap (·.frame)) g0 := by
    intro b hb
    have hb : b ∈ c.L :: c.frs := hb
    rcases List.mem_cons.mp hb with rfl | hb
    · obtain ⟨o,es,ep,h1,h2,_⟩ := FG.ns
      exact ⟨o,es,ep,h1,h2⟩
    · obtain ⟨o,es,n,h1,h2⟩ := S.dic b hb
      exact ⟨o,es,n,FG.keep _ _ h1,h2⟩
  obtain ⟨t,wd',ht,he,hsc,hY,hl,rfl,S',O',FO,L0⟩ := entry_ok (D := D) (f := f) (dp := c.dp + 1) (un := c.un + 3) (gd := c.gd) DO.toBody O.kin O.top (by lia) (by lia) hal r S.mr S.nd S.sp S.ap B' dic' F' N' Y' cell_ne
  obtain ⟨tc,te,tsc,tm,tY,tl⟩ := t
  dsimp only at ht he hsc hY hl
  subst ht hsc hY hl
  subst he
  refine hg n ib body _ DO.chk O' FO H _ { s with heap := h₁,toks := tk } _ X S' L0 hb _ _ (fun _ => PassesOwn.leaving) (fun fl fV l2 H2 m2 Y2 wd2 s2 q2 a2 hfl => ?_) (fun cl H2 m2 Y2 wd2 s2 e x st2 rc kk => ?_)
  · have kY : ∀ q ∈ Y,q ∈ Y2 := fun q hq => a2.keep q (List.mem_append_right _ hq) (.inr fun x hx e => by
      obtain ⟨a,ha,hm⟩ := cell_at DO.toBody L' x hx
      have e : (cellsFrom (_ + 1) scope.names []).lookup x = some q.1 := e
      rw [ha] at e
      cases e
      obtain ⟨o,ho,_⟩ := cells_at Y' hm
      exact cell_ne _ ho q (by simp [hq]) rfl)
    refine byC fun no9 => ?_
    obtain ⟨g₂,T2,F2,B2,D2,hs2⟩ := ground_back (h := s2.heap) S.below FG a2.st.turn S.dic a2.S.fr.keep ql a2.st.still
    refine no9 ?_
    clear no9
    have S3 : RepS c w.params m Y H2 { I := wd2.I,Mo := wd2.Mo,g := g₂ } s2.heap := by
      have Sx := a2.S.subX kY
      refine ⟨B2,D2,F2,fun q hq => ⟨(Sx.nw q hq).1,fun e => ?_,T2.none_ _ ?_⟩,Sx.mr,Sx.nd,Sx.sp,Sx.ap⟩
      · obtain ⟨o,_,_,h1,_⟩ := FG.ns
        obtain ⟨sl,h2⟩ := a2.st.turn.up h1
        have h3 := (Sx.nw q hq).2.2
        have h2 : wd2.g.get? c.L = _ := h2
        have h3 : wd2.g.get? q.1 = none := h3
        rw [e,h2] at h3; exact noneX (Eq.symm h3)
      · cases h1 : wd.g.get? q.1 with
        | none => rfl
        | some o =>
          obtain ⟨sl,h2⟩ := a2.st.turn.up (FG.keep _ _ h1)
          have h3 : wd2.g.get? q.1 = none := (Sx.nw q hq).2.2
          have h2 : wd2.g.get? q.1 = _ := h2
          rw [h2] at h3; exact noneX (Eq.symm h3)
    have st3 : Step ql c wd s { I := wd2.I,Mo := wd2.Mo,g := g₂ } s2 := ⟨Same.trans .mk a2.st.same,T2,⟨fun q hq nt => a2.st.ext.sub q (List.mem_append_right _ hq) nt,a2.st.ext.pre⟩,hs2⟩
    cases fl with
    | ret v => obtain ⟨V9,rfl,hfl⟩ := flr_r hfl; exact hK v H2 _ s2 _ q2 st3 S3 hfl
    | next => cases flr_n hfl; exact hK .none H2 _ s2 _ q2 st3 S3 (.none .nil)
    | brk => exact q2.elim
    | cont => exact q2.elim
  · have kY : ∀ q ∈ Y,q ∈ Y2 := fun q hq => kk q (List.mem_append_right _ hq) (.inr fun x hx e => by
      obtain ⟨a,ha,hm⟩ := cell_at DO.toBody L' x hx
      have e : (cellsFrom (_ + 1) scope.names []).lookup x = some q.1 := e
      rw [ha] at e
      cases e
      obtain ⟨o,ho,_⟩ := cells_at Y' hm
      exact cell_ne _ ho q (by simp [hq]) rfl)
    refine leave_out (c := frameOf (c.dp + 1) (c.un + 3) c.gd qual scope L' f cdv (c.env :: c.outer) c.A c.base) DO.kd rc fun a h' he hF hu => ?_
    obtain ⟨wd3,st3,rc3⟩ := rc_back (c := c) (c' := frameOf (c.dp + 1) (c.un + 3) c.gd qual scope L' f cdv (c.env :: c.outer) c.A c.base) (s := s) rfl rfl S.below S.dic FG (fun q hq nt => st2.ext.sub q (List.mem_append_right _ hq) nt) st2.ext.pre st2.turn st2.still (Same.trans .mk st2.same) rc.toRB kY he hF hu
    exact hX cl H2 wd3 _ e x st3 rc3
end
noncomputable abbrev Lo := List Str × List Str × List Str
noncomputable def ir_mask : List IS := [.ret (.bin .Sub (.bin .LShift (.c (.int 1)) (.loc 0)) (.c (.int 1)))]
noncomputable def lo_mask : Lo := (["size"],["size"],[])
noncomputable def ir_wrap : List IS := [.ret (.bin .BitAnd (.loc 0) (.call 92 [.loc 1]))]
noncomputable def lo_wrap : Lo := (["worth","size"],["worth","size"],[])
noncomputable def ir_signed : List IS := [.asg 2 false (.call 99 [.loc 0,.loc 1]),.iff (.cmp (.bin .RShift (.loc 2) (.bin .Sub (.loc 1) (.c (.int 1)))) .Eq (.c (.int 1))) [.ret (.bin .Sub (.loc 2) (.bin .LShift (.c (.int 1)) (.loc 1)))] [],.ret (.loc 2)]
noncomputable def lo_signed : Lo := (["worth","size"],["worth","size","low"],[])
noncomputable def ir_extended : List IS := [.ret (.call 99 [.call 106 [.loc 0,.loc 1],.loc 2])]
noncomputable def lo_extended : Lo := (["worth","size","wide"],["worth","size","wide"],[])
noncomputable def ir_bit : List IS := [.ret (.bin .BitAnd (.bin .RShift (.loc 0) (.loc 1)) (.c (.int 1)))]
noncomputable def lo_bit : Lo := (["worth","n"],["worth","n"],[])
noncomputable def ir_top_bit : List IS := [.ret (.call 120 [.loc 0,.bin .Sub (.loc 1) (.c (.int 1))])]
noncomputable def lo_top_bit : Lo := (["worth","size"],["worth","size"],[])
noncomputable def ir_figures_of : List IS := [.asg 2 false (.c (.str "")),.asg 3 false (.loc 0),.whileS (.or [.cmp (.loc 3) .Gt (.c (.int 0)),.cmp (.bcall .len [.loc 2]) .Lt (.loc 1)]) [.asg 2 false (.bin .Add (.idx (.g 0) (.bin .BitAnd (.loc 3) (.c (.int 15)))) (.loc 2)),.asg 3 false (.bin .RShift (.loc 3) (.c (.int 4)))],.ret (.loc 2)]
noncomputable def lo_figures_of : Lo := (["worth","least"],["worth","least","found","rest"],[])
noncomputable def ir_octets_text : List IS := [.ret (.smeth .join (.c (.str " ")) [.comp false (.call 134 [.loc 0,.c (.int 2)]) "octet" [] (.loc 0) none])]
noncomputable def lo_octets_text : Lo := (["octets"],["octets"],[])
noncomputable def ir_octets_of : List IS := [.asg 1 true (.lst true []),.forS [(2,false)] true (.smeth .lower (.loc 0) []) [.iff (.cmp (.loc 2) .Eq (.c (.str " "))) [.cont] [],.asg 3 false (.smeth .find (.g 0) [.loc 2]),.iff (.cmp (.loc 3) .Lt (.c (.int 0))) [.raise 59 (.bin .Add (.c (.str "no figure of base 16: ")) (.loc 2))] [],.ex (.smeth .append (.loc 1) [.loc 3])],.iff (.cmp (.bin .Mod (.bcall .len [.loc 1]) (.c (.int 2))) .Eq (.c (.int 1))) [.raise 59 (.c (.str "half an octet"))] [],.ret (.bcall .bytes [.comp false (.bin .Add (.bin .Mult (.c (.int 16)) (.idx (.loc 1) (.loc 0))) (.idx (.loc 1) (.bin .Add (.loc 0) (.c (.int 1))))) "spot" [1] (.bcall .range [.c (.int 0),.bcall .len [.loc 1],.c (.int 2)]) none])]
noncomputable def lo_octets_of : Lo := (["text"],["text","found","sign","place"],["found"])
noncomputable def ir_Register_code : List IS := [.ret (.bin .BitAnd (.attr (.loc 0) 196 2) (.c (.int 7)))]
noncomputable def lo_Register_code : Lo := (["self"],["self"],[])
noncomputable def ir_Register_is_extended : List IS := [.ret (.cmp (.attr (.loc 0) 196 2) .Gt (.c (.int 7)))]
noncomputable def lo_Register_is_extended : Lo := (["self"],["self"],[])
noncomputable def ir_Register_is_high : List IS := [.ret (.cmp (.attr (.loc 0) 196 1) .Eq (.c (.str "high")))]
noncomputable def lo_Register_is_high : Lo := (["self"],["self"],[])
noncomputable def ir_Register_needs_rex : List IS := [.iff (.and [.cmp (.attr (.loc 0) 196 1) .Eq (.c (.str "gpr")),.cmp (.attr (.loc 0) 196 3) .Eq (.c (.int 8))]) [.ret (.cmp (.attr (.loc 0) 196 2) .Gt (.c (.int 3)))] [],.ret (.meth 172 (.loc 0) [])]
noncomputable def lo_Register_needs_rex : Lo := (["self"],["self"],[])
noncomputable def ir_Register_told : List IS := [.ret (.attr (.loc 0) 196 0)]
noncomputable def lo_Register_told : Lo := (["self"],["self"],[])
noncomputable def ir_early_names : List IS := [.iff (.cmp (.loc 0) .Eq (.c (.int 64))) [.ret (.smeth .split (.g 4) [])] [],.iff (.cmp (.loc 0) .Eq (.c (.int 32))) [.ret (.smeth .split (.g 3) [])] [],.iff (.cmp (.loc 0) .Eq (.c (.int 16))) [.ret (.smeth .split (.g 2) [])] [],.iff (.cmp (.loc 0) .Eq (.c (.int 8))) [.ret (.smeth .split (.g 1) [])] [],.ret (.lst false [])]
noncomputable def lo_early_names : Lo := (["size"],["size"],[])
noncomputable def ir_late_ending : List IS := [.iff (.cmp (.loc 0) .Eq (.c (.int 32))) [.ret (.c (.str "d"))] [],.iff (.cmp (.loc 0) .Eq (.c (.int 16))) [.ret (.c (.str "w"))] [],.iff (.cmp (.loc 0) .Eq (.c (.int 8))) [.ret (.c (.str "b"))] [],.ret (.c (.str ""))]
noncomputable def lo_late_ending : Lo := (["size"],["size"],[])
noncomputable def ir_gpr : List IS := [.asg 2 false (.call 207 [.loc 1]),.iff (.or [.cmp (.loc 2) .Eq (.lst false []),.not (.chain (.c (.int 0)) .LtE (.loc 0) .LtE (.c (.int 15)))]) [.raise 71 (.c (.str "no such register"))] [],.iff (.cmp (.loc 0) .Lt (.c (.int 8))) [.ret (.call 196 [.idx (.loc 2) (.loc 0),.c (.str "gpr"),.loc 0,.loc 1])] [],.ret (.call 196 [.bin .Add (.bin .Add (.c (.str "r")) (.bcall .str [.loc 0])) (.call 214 [.loc 1]),.c (.str "gpr"),.loc 0,.loc 1])]
noncomputable def lo_gpr : Lo := (["number","size"],["number","size","names"],[])
noncomputable def ir_high : List IS := [.iff (.not (.chain (.c (.int 4)) .LtE (.loc 0) .LtE (.c (.int 7)))) [.raise 71 (.c (.str "no such high register"))] [],.ret (.call 196 [.idx (.smeth .split (.g 5) []) (.bin .Sub (.loc 0) (.c (.int 4))),.c (.str "high"),.loc 0,.c (.int 8)])]
noncomputable def lo_high : Lo := (["number"],["number"],[])
noncomputable def ir_octet_register : List IS := [.iff (.and [.not (.loc 1),.chain (.c (.int 4)) .LtE (.loc 0) .LtE (.c (.int 7))]) [.ret (.call 228 [.loc 0])] [],.ret (.call 221 [.loc 0,.c (.int 8)])]
noncomputable def lo_octet_register : Lo := (["number","has_rex"],["number","has_rex"],[])
noncomputable def ir_xmm : List IS := [.iff (.not (.chain (.c (.int 0)) .LtE (.loc 0) .LtE (.c (.int 15)))) [.raise 71 (.c (.str "no such xmm register"))] [],.ret (.call 196 [.bin .Add (.c (.str "xmm")) (.bcall .str [.loc 0]),.c (.str "xmm"),.loc 0,.c (.int 128)])]
noncomputable def lo_xmm : Lo := (["number"],["number"],[])
noncomputable def ir_segment : List IS := [.asg 1 false (.smeth .split (.g 8) []),.iff (.cmp (.loc 0) .NotIn (.tup [.c (.str "fs"),.c (.str "gs")])) [.raise 71 (.c (.str "no such segment"))] [],.ret (.call 196 [.loc 0,.c (.str "segment"),.smeth .index (.loc 1) [.loc 0],.c (.int 16)])]
noncomputable def lo_segment : Lo := (["name"],["name","names"],[])
noncomputable def ir_late_register : List IS := [.iff (.cmp (.slice (.loc 0) none (some (.c (.int 1)))) .NotEq (.c (.str "r"))) [.ret (.c .none)] [],.forS [(1,false)] true (.tup [.c (.int 64),.c (.int 32),.c (.int 16),.c (.int 8)]) [.asg 2 false (.call 214 [.loc 1]),.asg 3 false (.slice (.loc 0) (some (.c (.int 1))) (some (.bin .Sub (.bcall .len [.loc 0]) (.bcall .len [.loc 2])))),.iff (.and [.cmp (.slice (.loc 0) (some (.c (.int 1))) none) .Eq (.bin .Add (.loc 3) (.loc 2)),.cmp (.loc 3) .In (.smeth .split (.g 6) [])]) [.ret (.call 221 [.bcall .int [.loc 3],.loc 1])] []],.ret (.c .none)]
noncomputable def lo_late_register : Lo := (["name"],["name","size","ending","figures"],[])
noncomputable def ir_find_register : List IS := [.forS [(1,false)] true (.tup [.c (.int 64),.c (.int 32),.c (.int 16),.c (.int 8)]) [.asg 2 false (.call 207 [.loc 1]),.iff (.cmp (.loc 0) .In (.loc 2)) [.ret (.call 196 [.loc 0,.c (.str "gpr"),.smeth .index (.loc 2) [.loc 0],.loc 1])] []],.iff (.cmp (.loc 0) .In (.smeth .split (.g 5) [])) [.ret (.call 228 [.bin .Add (.c (.int 4)) (.smeth .index (.smeth .split (.g 5) []) [.loc 0])])] [],.iff (.and [.cmp (.slice (.loc 0) none (some (.c (.int 3)))) .Eq (.c (.str "xmm")),.cmp (.slice (.loc 0) (some (.c (.int 3))) none) .In (.smeth .split (.g 7) [])]) [.ret (.call 242 [.bcall .int [.slice (.loc 0) (some (.c (.int 3))) none]])] [],.iff (.cmp (.loc 0) .Eq (.c (.str "rip"))) [.ret (.call 249 [])] [],.iff (.cmp (.loc 0) .In (.tup [.c (.str "fs"),.c (.str "gs")])) [.ret (.call 256 [.loc 0])] [],.ret (.call 263 [.loc 0])]
noncomputable def lo_find_register : Lo := (["name"],["name","size","names"],[])
noncomputable def ir_same_register : List IS := [.iff (.or [.cmp (.loc 0) .Is (.c .none),.cmp (.loc 1) .Is (.c .none)]) [.ret (.and [.cmp (.loc 0) .Is (.c .none),.cmp (.loc 1) .Is (.c .none)])] [],.ret (.cmp (.attr (.loc 0) 196 0) .Eq (.attr (.loc 1) 196 0))]
noncomputable def lo_same_register : Lo := (["one","other"],["one","other"],[])
noncomputable def ir_whole : List IS := [.iff (.cmp (.attr (.loc 0) 196 1) .Eq (.c (.str "high"))) [.ret (.call 221 [.bin .Sub (.attr (.loc 0) 196 2) (.c (.int 4)),.c (.int 64)])] [],.iff (.cmp (.attr (.loc 0) 196 1) .Eq (.c (.str "gpr"))) [.ret (.call 221 [.attr (.loc 0) 196 2,.c (.int 64)])] [],.raise 71 (.c (.str "no register for whole numbers"))]
noncomputable def lo_whole : Lo := (["register"],["register"],[])
noncomputable def ir_part : List IS := [.ret (.call 221 [.attr (.call 284 [.loc 0]) 196 2,.loc 1])]
noncomputable def lo_part : Lo := (["register","size"],["register","size"],[])
noncomputable def ir_overlaps : List IS := [.iff (.and [.cmp (.attr (.loc 0) 196 1) .In (.tup [.c (.str "gpr"),.c (.str "high")]),.cmp (.attr (.loc 1) 196 1) .In (.tup [.c (.str "gpr"),.c (.str "high")])]) [.iff (.cmp (.attr (.call 284 [.loc 0]) 196 2) .NotEq (.attr (.call 284 [.loc 1]) 196 2)) [.ret (.c (.bool false))] [],.iff (.and [.cmp (.attr (.loc 0) 196 3) .Eq (.c (.int 8)),.cmp (.attr (.loc 1) 196 3) .Eq (.c (.int 8))]) [.ret (.cmp (.attr (.loc 0) 196 1) .Eq (.attr (.loc 1) 196 1))] [],.ret (.c (.bool true))] [],.ret (.and [.cmp (.attr (.loc 0) 196 1) .Eq (.attr (.loc 1) 196 1),.cmp (.attr (.loc 0) 196 2) .Eq (.attr (.loc 1) 196 2)])]
noncomputable def lo_overlaps : Lo := (["one","other"],["one","other"],[])
noncomputable def ir_all_registers : List IS := [.iff (.cmp (.loc 0) .Eq (.c (.int 128))) [.ret (.comp false (.call 242 [.loc 0]) "number" [] (.bcall .range [.c (.int 16)]) none)] [],.asg 1 false (.comp true (.call 221 [.loc 0,.loc 1]) "number" [0] (.bcall .range [.c (.int 16)]) none),.iff (.cmp (.loc 0) .Eq (.c (.int 8))) [.ex (.smeth .extend (.loc 1) [.comp false (.call 228 [.loc 0]) "number" [] (.bcall .range [.c (.int 4),.c (.int 8)]) none])] [],.ret (.loc 1)]
noncomputable def lo_all_registers : Lo := (["size"],["size","found"],["size"])
noncomputable def ir_joined : List IS := [.iff (.cmp (.loc 2) .GtE (.c (.int 32))) [.ret (.loc 1)] [],.ret (.bin .Add (.bin .Sub (.loc 0) (.call 99 [.loc 0,.loc 2])) (.loc 1))]
noncomputable def lo_joined : Lo := (["old","worth","size"],["old","worth","size"],[])
noncomputable def ir_State_get : List IS := [.iff (.cmp (.attr (.loc 1) 196 1) .Eq (.c (.str "gpr"))) [.ret (.call 99 [.idx (.attr (.loc 0) 587 1) (.attr (.loc 1) 196 2),.attr (.loc 1) 196 3])] [],.iff (.cmp (.attr (.loc 1) 196 1) .Eq (.c (.str "high"))) [.ret (.call 99 [.bin .RShift (.idx (.attr (.loc 0) 587 1) (.bin .Sub (.attr (.loc 1) 196 2) (.c (.int 4)))) (.c (.int 8)),.c (.int 8)])] [],.iff (.cmp (.attr (.loc 1) 196 1) .Eq (.c (.str "xmm"))) [.ret (.idx (.attr (.loc 0) 587 2) (.attr (.loc 1) 196 2))] [],.iff (.cmp (.attr (.loc 1) 196 1) .Eq (.c (.str "rip"))) [.ret (.attr (.loc 0) 587 5)] [],.raise 83 (.c (.str "register"))]
noncomputable def lo_State_get : Lo := (["self","register"],["self","register"],[])
noncomputable def ir_State_put : List IS := [.asg 2 false (.call 99 [.loc 2,.attr (.loc 1) 196 3]),.iff (.cmp (.attr (.loc 1) 196 1) .Eq (.c (.str "gpr"))) [.asgI (.attr (.loc 0) 587 1) (.attr (.loc 1) 196 2) (.call 481 [.idx (.attr (.loc 0) 587 1) (.attr (.loc 1) 196 2),.loc 2,.attr (.loc 1) 196 3])] [.iff (.cmp (.attr (.loc 1) 196 1) .Eq (.c (.str "high"))) [.asg 3 false (.idx (.attr (.loc 0) 587 1) (.bin .Sub (.attr (.loc 1) 196 2) (.c (.int 4)))),.asgI (.attr (.loc 0) 587 1) (.bin .Sub (.attr (.loc 1) 196 2) (.c (.int 4))) (.bin .Add (.loc 3) (.bin .LShift (.bin .Sub (.loc 2) (.call 99 [.bin .RShift (.loc 3) (.c (.int 8)),.c (.int 8)])) (.c (.int 8))))] [.iff (.cmp (.attr (.loc 1) 196 1) .Eq (.c (.str "xmm"))) [.asgI (.attr (.loc 0) 587 2) (.attr (.loc 1) 196 2) (.loc 2)] [.raise 83 (.c (.str "register"))]]]]
noncomputable def lo_State_put : Lo := (["self","register","worth"],["self","register","worth","old"],[])
noncomputable def ir_law_pen : List IS := [.asg 1 false (.c (.int 13)),.forS [(2,false)] true (.slice (.loc 0) none (some (.c (.int 63)))) [.asg 1 false (.bin .Add (.bin .Add (.bin .Mult (.loc 1) (.c (.int 1019))) (.bin .Mult (.c (.int 2)) (.bcall .abs [.bcall .int [.loc 2]]))) (.bcall .int [.cmp (.loc 2) .Lt (.c (.int 0))]))],.ret (.lst true [.loc 1,.c (.int 0)])]
noncomputable def lo_law_pen : Lo := (["script"],["script","number","cell"],[])
noncomputable def ir_law_draw : List IS := [.iff (.cmp (.idx (.loc 0) (.c (.int 0))) .Eq (.c (.int 0))) [.asgI (.loc 0) (.c (.int 1)) (.bin .Add (.idx (.loc 0) (.c (.int 1))) (.c (.int 1))),.asgI (.loc 0) (.c (.int 0)) (.bin .Pow (.bin .Add (.bin .Mult (.c (.int 2038)) (.idx (.loc 0) (.c (.int 1)))) (.c (.int 7013))) (.c (.int 9)))] [],.asg 2 false (.bin .Mod (.idx (.loc 0) (.c (.int 0))) (.loc 1)),.asgI (.loc 0) (.c (.int 0)) (.bin .FloorDiv (.idx (.loc 0) (.c (.int 0))) (.loc 1)),.ret (.loc 2)]
noncomputable def lo_law_draw : Lo := (["pen","many"],["pen","many","digit"],[])
noncomputable def ir_law_pick : List IS := [.ret (.idx (.loc 1) (.call 605 [.loc 0,.bcall .len [.loc 1]]))]
noncomputable def lo_law_pick : Lo := (["pen","some"],["pen","some"],[])
noncomputable def ir_law_table : List IS := [.asgT [(0,false),(1,false)] true (.tup [.lst true [],.lst false [.c (.str "ax"),.c (.str "cx"),.c (.str "dx"),.c (.str "bx"),.c (.str "sp"),.c (.str "bp"),.c (.str "si"),.c (.str "di")]]),.asg 2 false (.lst false [.c (.str "al"),.c (.str "cl"),.c (.str "dl"),.c (.str "bl"),.c (.str "spl"),.c (.str "bpl"),.c (.str "sil"),.c (.str "dil")]),.forS [(3,false)] true (.bcall .range [.c (.int 8)]) [.ex (.smeth .append (.loc 0) [.tup [.idx (.loc 2) (.loc 3),.c (.str "gpr"),.loc 3,.c (.int 0),.c (.int 8)]]),.ex (.smeth .append (.loc 0) [.tup [.idx (.loc 1) (.loc 3),.c (.str "gpr"),.loc 3,.c (.int 0),.c (.int 16)]]),.ex (.smeth .append (.loc 0) [.tup [.bin .Add (.c (.str "e")) (.idx (.loc 1) (.loc 3)),.c (.str "gpr"),.loc 3,.c (.int 0),.c (.int 32)]]),.ex (.smeth .append (.loc 0) [.tup [.bin .Add (.c (.str "r")) (.idx (.loc 1) (.loc 3)),.c (.str "gpr"),.loc 3,.c (.int 0),.c (.int 64)]])],.forS [(3,false)] true (.bcall .range [.c (.int 8),.c (.int 16)]) [.forS [(4,false),(5,false)] false (.lst false [.tup [.c (.str "b"),.c (.int 8)],.tup [.c (.str "w"),.c (.int 16)],.tup [.c (.str "d"),.c (.int 32)],.tup [.c (.str ""),.c (.int 64)]]) [.ex (.smeth .append (.loc 0) [.tup [.bin .Add (.bin .Add (.c (.str "r")) (.bcall .str [.loc 3])) (.loc 4),.c (.str "gpr"),.loc 3,.c (.int 0),.loc 5]])]],.forE 3 6 (.lst false [.c (.str "ah"),.c (.str "ch"),.c (.str "dh"),.c (.str "bh")]) [.ex (.smeth .append (.loc 0) [.tup [.loc 6,.c (.str "high"),.bin .Add (.c (.int 4)) (.loc 3),.c (.int 8),.c (.int 8)]])],.ret (.bin .Add (.loc 0) (.comp false (.tup [.bin .Add (.c (.str "xmm")) (.bcall .str [.loc 0]),.c (.str "xmm"),.loc 0,.c (.int 0),.c (.int 128)]) "number" [] (.bcall .range [.c (.int 16)]) none))]
noncomputable def lo_law_table : Lo := ([],["rows","stems","lows","number","tail","size","name"],[])
noncomputable def ir_law_home : List IS := [.ret (.ife (.cmp (.idx (.loc 0) (.c (.int 1))) .Eq (.c (.str "high"))) (.bin .Sub (.idx (.loc 0) (.c (.int 2))) (.c (.int 4))) (.bin .Add (.idx (.loc 0) (.c (.int 2))) (.bin .Mult (.c (.int 16)) (.bcall .int [.cmp (.idx (.loc 0) (.c (.int 1))) .Eq (.c (.str "xmm"))]))))]
noncomputable def lo_law_home : Lo := (["row"],["row"],[])
noncomputable def ir_law_meet : List IS := [.ret (.and [.cmp (.call 624 [.loc 0]) .Eq (.call 624 [.loc 1]),.cmp (.idx (.loc 0) (.c (.int 3))) .Lt (.bin .Add (.idx (.loc 1) (.c (.int 3))) (.idx (.loc 1) (.c (.int 4)))),.cmp (.idx (.loc 1) (.c (.int 3))) .Lt (.bin .Add (.idx (.loc 0) (.c (.int 3))) (.idx (.loc 0) (.c (.int 4))))])]
noncomputable def lo_law_meet : Lo := (["one","other"],["one","other"],[])
noncomputable def ir_law_is_refused : List IS := [.tryS (.callv 0) 71 (.bool true),.ret (.c (.bool false))]
noncomputable def lo_law_is_refused : Lo := (["ask"],["ask"],[])
noncomputable def ir_law_row_right : List IS := [.asgT [(1,false),(2,false),(3,false),(4,false),(5,false)] false (.loc 0),.asg 6 true (.call 270 [.loc 1]),.iff (.or [.cmp (.loc 6) .Is (.c .none),.cmp (.tup [.meth 193 (.loc 6) [],.attr (.loc 6) 196 1,.attr (.loc 6) 196 2,.attr (.loc 6) 196 3]) .NotEq (.tup [.loc 1,.loc 2,.loc 3,.loc 5])]) [.ret (.c (.bool false))] [],.asg 7 false (.or [.cmp (.loc 3) .Gt (.c (.int 7)),.and [.cmp (.loc 2) .Eq (.c (.str "gpr")),.cmp (.loc 5) .Eq (.c (.int 8)),.cmp (.loc 3) .Gt (.c (.int 3))]]),.iff (.or [.cmp (.meth 165 (.loc 6) []) .NotEq (.bin .Mod (.loc 3) (.c (.int 8))),.cmp (.meth 172 (.loc 6) []) .NotEq (.cmp (.loc 3) .Gt (.c (.int 7))),.cmp (.meth 186 (.loc 6) []) .NotEq (.loc 7)]) [.ret (.c (.bool false))] [],.iff (.or [.cmp (.meth 179 (.loc 6) []) .NotEq (.cmp (.loc 2) .Eq (.c (.str "high"))),.not (.call 277 [.loc 6,.call 270 [.loc 1]]),.call 277 [.loc 6,.c .none]]) [.ret (.c (.bool false))] [],.iff (.cmp (.loc 2) .Eq (.c (.str "xmm"))) [.ret (.and [.cmp (.meth 193 (.call 242 [.loc 3]) []) .Eq (.loc 1),.call 638 [.lam 0 [6]]])] [],.asg 8 false (.call 221 [.call 624 [.loc 0],.c (.int 64)]),.asg 9 false (.comp false (.meth 193 (.call 291 [.loc 1,.loc 0]) []) "wide" [6] (.tup [.c (.int 8),.c (.int 16),.c (.int 32),.c (.int 64)]) none),.iff (.or [.cmp (.meth 193 (.call 284 [.loc 6]) []) .NotEq (.meth 193 (.loc 8) []),.cmp (.loc 9) .NotEq (.comp false (.meth 193 (.call 221 [.call 624 [.loc 1],.loc 0]) []) "wide" [0] (.tup [.c (.int 8),.c (.int 16),.c (.int 32),.c (.int 64)]) none)]) [.ret (.c (.bool false))] [],.ret (.cmp (.meth 193 (.ife (.cmp (.loc 2) .Eq (.c (.str "high"))) (.call 228 [.loc 3]) (.call 221 [.loc 3,.loc 5])) []) .Eq (.loc 1))]
noncomputable def lo_law_row_right : Lo := (["row"],["row","name","kind","number","low","size","found","needs","home","parts"],["row","found"])
noncomputable def ir_law_names_right : List IS := [.asg 2 true (.call 612 [.loc 0,.lst false [.c (.int 8),.c (.int 16),.c (.int 32),.c (.int 64),.c (.int 128)]]),.asg 3 false (.comp false (.idx (.loc 0) (.c (.int 0))) "row" [2] (.loc 1) (some (.cmp (.idx (.loc 0) (.c (.int 4))) .Eq (.loc 1)))),.iff (.cmp (.comp false (.meth 193 (.loc 0) []) "one" [] (.call 303 [.loc 2]) none) .NotEq (.loc 3)) [.ret (.c (.bool false))] [],.asgT [(4,false),(5,false)] true (.tup [.call 605 [.loc 0,.c (.int 16)],.cmp (.call 605 [.loc 0,.c (.int 2)]) .Eq (.c (.int 1))]),.asg 6 false (.lst false [.c (.str "al"),.c (.str "cl"),.c (.str "dl"),.c (.str "bl"),.c (.str "spl"),.c (.str "bpl"),.c (.str "sil"),.c (.str "dil")]),.asg 7 false (.ife (.cmp (.loc 4) .Lt (.c (.int 8))) (.idx (.loc 6) (.loc 4)) (.bin .Add (.bin .Add (.c (.str "r")) (.bcall .str [.loc 4])) (.c (.str "b")))),.iff (.and [.not (.loc 5),.chain (.c (.int 4)) .LtE (.loc 4) .Lt (.c (.int 8))]) [.asg 7 false (.idx (.lst false [.c (.str "ah"),.c (.str "ch"),.c (.str "dh"),.c (.str "bh")]) (.bin .Sub (.loc 4) (.c (.int 4))))] [],.asg 8 false (.lst false [.c (.str ""),.c (.str "r"),.c (.str "AL"),.c (.str "eaxx"),.c (.str "r16"),.c (.str "r07"),.c (.str "r8x"),.c (.str "r8bd"),.c (.str "xmm"),.c (.str "xmm16"),.c (.str "xmm01"),.c (.str "rflags"),.c (.str "cs"),.c (.str "es"),.c (.str "%al"),.c (.str "al "),.c (.str "st0"),.c (.str "r-8")]),.iff (.or [.cmp (.meth 193 (.call 235 [.loc 4,.loc 5]) []) .NotEq (.loc 7),.cmp (.call 270 [.call 612 [.loc 0,.loc 8]]) .IsNot (.c .none)]) [.ret (.c (.bool false))] [],.asg 9 true (.call 612 [.loc 0,.loc 1]),.iff (.or [.cmp (.call 270 [.smeth .upper (.idx (.loc 9) (.c (.int 0))) []]) .IsNot (.c .none),.cmp (.call 270 [.bin .Add (.idx (.loc 9) (.c (.int 0))) (.call 612 [.loc 0,.lst false [.c (.str "x"),.c (.str " "),.c (.str "%"),.c (.str "_")]])]) .IsNot (.c .none)]) [.ret (.c (.bool false))] [],.iff (.or [.cmp (.comp false (.attr (.call 256 [.loc 0]) 196 2) "name" [] (.tup [.c (.str "fs"),.c (.str "gs")]) none) .NotEq (.lst false [.c (.int 4),.c (.int 5)]),.not (.call 277 [.c .none,.c .none])]) [.ret (.c (.bool false))] [],.asg 10 false (.lst false [.lam 1 [],.lam 2 [],.lam 3 [],.lam 4 [],.lam 5 [],.lam 6 [],.lam 7 []]),.ret (.and [.call 638 [.call 612 [.loc 0,.loc 10]],.call 638 [.lam 8 [9]]])]
noncomputable def lo_law_names_right : Lo := (["pen","table"],["pen","table","size","due","number","has_rex","names","octet","strange","row","asks"],["size","row"])
noncomputable def ir_law_state : List IS := [.asgT [(1,false),(2,false)] true (.tup [.call 587 [.c .none],.lst true []]),.forS [(3,false)] true (.bcall .range [.c (.int 32)]) [.ex (.smeth .append (.loc 2) [.call 605 [.loc 0,.ife (.cmp (.loc 3) .Lt (.c (.int 16))) (.bin .Pow (.c (.int 2)) (.c (.int 64))) (.bin .Pow (.c (.int 2)) (.c (.int 128)))]]),.iff (.cmp (.loc 3) .Lt (.c (.int 16))) [.asgI (.attr (.loc 1) 587 1) (.loc 3) (.idx (.loc 2) (.loc 3))] [.asgI (.attr (.loc 1) 587 2) (.bin .Sub (.loc 3) (.c (.int 16))) (.idx (.loc 2) (.loc 3))]],.ret (.tup [.loc 1,.loc 2])]
noncomputable def lo_law_state : Lo := (["pen"],["pen","state","held","number"],[])
noncomputable def ir_law_puts_right : List IS := [.asgT [(4,false),(5,true)] false (.call 655 [.loc 0]),.asgT [(6,false),(7,false)] true (.tup [.call 270 [.idx (.loc 1) (.c (.int 0))],.call 270 [.idx (.loc 2) (.c (.int 0))]]),.asg 8 false (.comp false (.bin .Mod (.bin .FloorDiv (.idx (.loc 1) (.call 624 [.loc 0])) (.bin .Pow (.c (.int 2)) (.idx (.loc 0) (.c (.int 3))))) (.bin .Pow (.c (.int 2)) (.idx (.loc 0) (.c (.int 4))))) "row" [5] (.tup [.loc 1,.loc 2]) none),.iff (.cmp (.lst false [.meth 502 (.loc 4) [.loc 6],.meth 502 (.loc 4) [.loc 7]]) .NotEq (.loc 8)) [.ret (.c (.bool false))] [],.ex (.meth 509 (.loc 4) [.loc 6,.bin .Sub (.bin .Sub (.bin .Pow (.c (.int 2)) (.idx (.loc 1) (.c (.int 4)))) (.c (.int 1))) (.idx (.loc 8) (.c (.int 0)))]),.asg 9 false (.cmp (.meth 502 (.loc 4) [.loc 7]) .NotEq (.idx (.loc 8) (.c (.int 1)))),.asg 10 false (.call 631 [.loc 1,.loc 2]),.iff (.or [.cmp (.loc 9) .NotEq (.loc 10),.cmp (.call 298 [.loc 6,.loc 7]) .NotEq (.loc 10),.cmp (.call 298 [.loc 7,.loc 6]) .NotEq (.loc 10)]) [.ret (.c (.bool false))] [],.ex (.meth 509 (.loc 4) [.loc 6,.loc 3]),.asgT [(11,false),(12,false)] true (.tup [.call 624 [.loc 1],.bin .Mod (.loc 3) (.bin .Pow (.c (.int 2)) (.idx (.loc 1) (.c (.int 4))))]),.asg 13 false (.bin .Mod (.idx (.loc 5) (.loc 11)) (.bin .Pow (.c (.int 2)) (.idx (.loc 1) (.c (.int 3))))),.asg 14 false (.ife (.cmp (.idx (.loc 1) (.c (.int 4))) .GtE (.c (.int 32))) (.c (.int 0)) (.bin .Mult (.bin .FloorDiv (.idx (.loc 5) (.loc 11)) (.bin .Pow (.c (.int 2)) (.bin .Add (.idx (.loc 1) (.c (.int 3))) (.idx (.loc 1) (.c (.int 4)))))) (.bin .Pow (.c (.int 2)) (.bin .Add (.idx (.loc 1) (.c (.int 3))) (.idx (.loc 1) (.c (.int 4))))))),.asgI (.loc 5) (.loc 11) (.bin .Add (.bin .Add (.loc 14) (.bin .Mult (.loc 12) (.bin .Pow (.c (.int 2)) (.idx (.loc 1) (.c (.int 3)))))) (.loc 13)),.ret (.and [.cmp (.attr (.loc 4) 587 1) .Eq (.slice (.loc 5) none (some (.c (.int 16)))),.cmp (.attr (.loc 4) 587 2) .Eq (.slice (.loc 5) (some (.c (.int 16))) none),.cmp (.meth 502 (.loc 4) [.loc 6]) .Eq (.loc 12)])]
noncomputable def lo_law_puts_right : Lo := (["pen","one","other","worth"],["pen","one","other","worth","state","held","first","second","seen","changed","meet","home","told","below","above"],["held"])
noncomputable def ir_law_numbers_right : List IS := [.asg 2 false (.call 612 [.loc 0,.lst false [.c (.int 1),.c (.int 7),.c (.int 8),.c (.int 16),.c (.int 31),.c (.int 32),.c (.int 64)]]),.asgT [(3,false),(4,false)] true (.tup [.bin .Add (.loc 2) (.call 612 [.loc 0,.lst false [.c (.int 0),.c (.int 1),.c (.int 8),.c (.int 32)]]),.bin .Mod (.loc 1) (.bin .Pow (.c (.int 2)) (.loc 2))]),.asg 5 false (.ife (.cmp (.bin .Mult (.c (.int 2)) (.loc 4)) .GtE (.bin .Pow (.c (.int 2)) (.loc 2))) (.bin .Sub (.loc 4) (.bin .Pow (.c (.int 2)) (.loc 2))) (.loc 4)),.iff (.or [.cmp (.call 99 [.loc 1,.loc 2]) .NotEq (.loc 4),.cmp (.call 106 [.loc 1,.loc 2]) .NotEq (.loc 5),.cmp (.call 127 [.loc 1,.loc 2]) .NotEq (.bcall .int [.cmp (.loc 5) .Lt (.c (.int 0))])]) [.ret (.c (.bool false))] [],.ret (.cmp (.call 113 [.loc 1,.loc 2,.loc 3]) .Eq (.bin .Mod (.loc 5) (.bin .Pow (.c (.int 2)) (.loc 3))))]
noncomputable def lo_law_numbers_right : Lo := (["pen","worth"],["pen","worth","size","wide","low","due"],[])
noncomputable def ir_law_figures_right : List IS := [.asg 1 false (.bcall .bytes [.comp false (.call 605 [.loc 1,.c (.int 256)]) "spot" [0] (.bcall .range [.call 605 [.loc 0,.c (.int 6)]]) none]),.asg 2 true (.smeth .join (.c (.str "")) [.comp false (.bin .Add (.idx (.c (.str "0123456789abcdef")) (.bin .FloorDiv (.loc 0) (.c (.int 16)))) (.idx (.c (.str "0123456789abcdef")) (.bin .Mod (.loc 0) (.c (.int 16))))) "octet" [] (.loc 1) none]),.iff (.cmp (.call 139 [.loc 1]) .NotEq (.smeth .join (.c (.str " ")) [.comp false (.slice (.loc 1) (some (.loc 0)) (some (.bin .Add (.loc 0) (.c (.int 2))))) "at" [2] (.bcall .range [.c (.int 0),.bcall .len [.loc 2],.c (.int 2)]) none])) [.ret (.c (.bool false))] [],.asg 3 false (.c (.str "")),.forS [(4,false)] true (.loc 2) [.asg 3 false (.bin .Add (.bin .Add (.loc 3) (.bin .Mult (.c (.str " ")) (.call 605 [.loc 0,.c (.int 2)]))) (.ife (.cmp (.call 605 [.loc 0,.c (.int 2)]) .Eq (.c (.int 0))) (.smeth .upper (.loc 4) []) (.loc 4)))],.iff (.or [.cmp (.call 144 [.loc 3]) .NotEq (.loc 1),.cmp (.call 144 [.call 139 [.loc 1]]) .NotEq (.loc 1)]) [.ret (.c (.bool false))] [],.asg 5 false (.call 605 [.loc 0,.bin .Add (.bcall .len [.loc 3]) (.c (.int 1))]),.tryS (.call 144 [.bin .Add (.bin .Add (.slice (.loc 3) none (some (.loc 5))) (.call 612 [.loc 0,.lst false [.c (.str "0"),.c (.str "g"),.c (.str "F"),.c (.str "-"),.c (.str "."),.c (.str "x"),.c (.str "\n")]])) (.slice (.loc 3) (some (.loc 5)) none)]) 59 (.bool true),.ret (.c (.bool false))]
noncomputable def lo_law_figures_right : Lo := (["pen"],["pen","octets","figures","text","sign","spot"],["pen","figures"])
noncomputable def ir_law : List IS := [.asgT [(1,false),(2,false),(3,false)] true (.tup [.call 598 [.loc 0],.call 617 [],.bcall .sum [.slice (.loc 0) none (some (.c (.int 1)))]]),.asg 4 true (.call 612 [.loc 1,.loc 2]),.asg 5 false (.comp false (.loc 0) "row" [4] (.loc 2) (some (.cmp (.call 624 [.loc 0]) .Eq (.call 624 [.loc 1])))),.asg 6 false (.ife (.cmp (.call 605 [.loc 1,.c (.int 3)]) .Gt (.c (.int 0))) (.call 612 [.loc 1,.loc 5]) (.call 612 [.loc 1,.loc 2])),.iff (.or [.not (.call 643 [.loc 4]),.not (.call 643 [.loc 6]),.not (.call 660 [.loc 1,.loc 4,.loc 6,.loc 3])]) [.ret (.c (.bool false))] [],.ret (.and [.call 648 [.loc 1,.loc 2],.call 667 [.loc 1,.loc 3],.call 672 [.loc 1]])]
noncomputable def lo_law : Lo := (["script"],["script","pen","table","worth","one","nears","other"],["one"])
noncomputable def firs : List (Nat × Lo × List IS) := [(92,lo_mask,ir_mask),(99,lo_wrap,ir_wrap),(106,lo_signed,ir_signed),(113,lo_extended,ir_extended),(120,lo_bit,ir_bit),(127,lo_top_bit,ir_top_bit),(134,lo_figures_of,ir_figures_of),(139,lo_octets_text,ir_octets_text),(144,lo_octets_of,ir_octets_of),(165,lo_Register_code,ir_Register_code),(172,lo_Register_is_extended,ir_Register_is_extended),(179,lo_Register_is_high,ir_Register_is_high),(186,lo_Register_needs_rex,ir_Register_needs_rex),(193,lo_Register_told,ir_Register_told),(207,lo_early_names,ir_early_names),(214,lo_late_ending,ir_late_ending),(221,lo_gpr,ir_gpr),(228,lo_high,ir_high),(235,lo_octet_register,ir_octet_register),(242,lo_xmm,ir_xmm),(256,lo_segment,ir_segment),(263,lo_late_register,ir_late_register),(270,lo_find_register,ir_find_register),(277,lo_same_register,ir_same_register),(284,lo_whole,ir_whole),(291,lo_part,ir_part),(298,lo_overlaps,ir_overlaps),(303,lo_all_registers,ir_all_registers),(481,lo_joined,ir_joined),(502,lo_State_get,ir_State_get),(509,lo_State_put,ir_State_put),(598,lo_law_pen,ir_law_pen),(605,lo_law_draw,ir_law_draw),(612,lo_law_pick,ir_law_pick),(617,lo_law_table,ir_law_table),(624,lo_law_home,ir_law_home),(631,lo_law_meet,ir_law_meet),(638,lo_law_is_refused,ir_law_is_refused),(643,lo_law_row_right,ir_law_row_right),(648,lo_law_names_right,ir_law_names_right),(655,lo_law_state,ir_law_state),(660,lo_law_puts_right,ir_law_puts_right),(667,lo_law_numbers_right,ir_law_numbers_right),(672,lo_law_figures_right,ir_law_figures_right)]
noncomputable def tabOf : Nat → Option (Nat × Nat)
  | 643 => some (642,640)
  | 648 => some (647,645)
  | _ => none
noncomputable def scOf (lo : Lo) (f : Nat) (names : List (Str × NameKind)) : Sc := ⟨lo.2.1,names,lo.2.2,true,tabOf f⟩
noncomputable def tabChk (K : Frag) (f : Nat) (fd : FuncData) : Bool := match tabOf f with
  | none => true
  | some (cd,P) => fd.code == .ref cd && codeHdIn K cd P && (P == 640 || P == 645) && fd.qualname ++ ".<locals>." ++ "<lambda>" == tabQ P
noncomputable def fnChk (K : Frag) (lo : Lo) (f n : Nat) (ib : List IS) (fd : FuncData) (body : List Stmt) : Bool :=
  (codeIn K fd.code fd.qualname && lo.2.2.all (fun x => fd.scope.names.lookup x == some .cell)) &&
  (lo.2.1.all (fun x => (lo.2.2.contains x || fd.scope.names.lookup x == some .local) && notDebug x) && lo.2.1.take lo.1.length == lo.1) &&
  (!fd.scope.isCoroutine && !fd.scope.isGenerator && fd.scope.kind == .function) && (tabChk K f fd && chkS n (scOf lo f fd.scope.names) ib body)
theorem nodup_of {l : List Str} (h : l.eraseDups.length = l.length) : True := trivial
theorem defOk_of {K : Frag} {lo : Lo} {f n : Nat} {ib : List IS} {oc : Value} {od : Option Addr} {osl : Array (Option Value)} {name qual : Str} {params : Arguments} {scope : Scope} {body : List Stmt} {dV kV doc pm cdv ct : Value} {an : Option Addr}
    (ho : K.lookup f = some ⟨oc,od,.func (fnOf name qual params body scope dV kV doc pm an cdv ct),osl⟩) (hc : fnChk K lo f n ib (fnOf name qual params body scope dV kV doc pm an cdv ct) body = true)
    (hb : ∀ vs : List Value,vs.length = lo.1.length → bindArgs (fnOf name qual params body scope dV kV doc pm an cdv ct) ⟨vs,[]⟩ = pure (lo.1.zip vs)) (hnd : lo.2.1.Nodup) (hcn : ((cellsFrom 0 scope.names []).map (·.1)).Nodup) :
    DefOk K (scOf lo f scope.names) lo.1 f params scope body n ib name qual dV kV doc pm cdv ct an := by
  have h1 := and4 hc
  have h2 := and2 h1.1
  have h3 := and2 h1.2.1
  have h4 := and3 h1.2.2.1
  have h5 := List.all_eq_true.mp h3.1
  refine ⟨⟨oc,od,osl,ho⟩,h2.1,hb,rfl,fun x hx => ?_,fun x hx hcx => ?_,fun x hx => (and2 (h5 x hx)).2,hnd,?_,hcn,by simpa using h4.1,by simpa using h4.2.1,beq_iff_eq.mp h4.2.2,rfl,fun cd P h => ?_,(and2 h1.2.2.2).2⟩
  · exact beq_iff_eq.mp (List.all_eq_true.mp h2.2 x hx)
  · have h6 := (and2 (h5 x hx)).1
    rw [Bool.or_eq_true] at h6
    rcases h6 with h6 | h6
    · exact absurd (show x ∈ lo.2.2 by simpa using h6) hcx
    · exact beq_iff_eq.mp h6
  · exact beq_iff_eq.mp h3.2
  · have ht := (and2 h1.2.2.2).1
    have h : tabOf f = some (cd,P) := h
    unfold tabChk at ht
    rw [h] at ht
    have h6 := and4 ht
    refine ⟨?_,h6.2.1,by simpa using h6.2.2.1,beq_iff_eq.mp h6.2.2.2⟩
    exact beq_iff_eq.mp h6.1
inductive DefOkE (K : Frag) (lo : Lo) (f n : Nat) (ib : List IS) : Prop
  | mk (params scope body name qual dV kV doc pm cdv ct an) (h : DefOk K (scOf lo f scope.names) lo.1 f params scope body n ib name qual dV kV doc pm cdv ct an)
theorem defOkE_of {K : Frag} {lo : Lo} {f n : Nat} {ib : List IS} {oc : Value} {od : Option Addr} {osl : Array (Option Value)} {name qual : Str} {params : Arguments} {scope : Scope} {body : List Stmt} {dV kV doc pm cdv ct : Value} {an : Option Addr}
    (ho : K.lookup f = some ⟨oc,od,.func (fnOf name qual params body scope dV kV doc pm an cdv ct),osl⟩) (hc : fnChk K lo f n ib (fnOf name qual params body scope dV kV doc pm an cdv ct) body = true)
    (hb : ∀ vs : List Value,vs.length = lo.1.length → bindArgs (fnOf name qual params body scope dV kV doc pm an cdv ct) ⟨vs,[]⟩ = pure (lo.1.zip vs)) (hnd : lo.2.1.Nodup) (hcn : ((cellsFrom 0 scope.names []).map (·.1)).Nodup) : DefOkE K lo f n ib :=
  ⟨_,_,_,_,_,_,_,_,_,_,_,_,defOk_of ho hc hb hnd hcn⟩
section
variable {ql : Bool} {prog : Program} {w : World} {K : Frag} {p : Program} {loose : List Str} {mean : ExcName → Option Value} {mg mb : Str → Option Value} {D : Nat}
theorem Sound.mono {f : Nat} {C C' : Con} {D' : Nat} (h : Sound prog w K p loose mean mg mb ql f D C) (hd : D ≤ D') (hC : ∀ args H Q X,C' args H Q X → C args H Q X) : Sound prog w K p loose mean mg mb ql f D' C' :=
  fun c args H Q X m Y wd s vs Qr Er O q S r h1 h2 hK hX => h c args H Q X m Y wd s vs Qr Er O (hC _ _ _ _ q) S r (by lia) (by lia) hK hX
theorem Sound.loud {f : Nat} {C : Con} (h : Sound prog w K p loose mean mg mb true f D C) : Sound prog w K p loose mean mg mb ql f D C :=
  fun c args H Q X m Y wd s vs Qr Er O q S r h1 h2 hK hX => h c args H Q X m Y wd s vs Qr Er O q S r h1 h2 (fun v H' wd' s' V q' st => hK v H' wd' s' V q' st.weak) (fun cl H' wd' s' e x st => hX cl H' wd' s' e x st.weak)
theorem Sound.freeze {f : Nat} {C : Con} (h : Sound prog w K p loose mean mg mb ql f D C) : Sound prog w K p loose mean mg mb ql f D (fun args H Q X => C args H (fun v H' => ∃ i ys,v = .mu i ∧ H.length ≤ i ∧ H'[i]? = some ys ∧ Q (.lst ys) (H'.take H.length)) X) := by
  intro c args H Q X m Y wd s vs Qr Er O q S r h1 h2 hK hX
  refine h c args H _ X m Y wd s vs Qr Er O q S r h1 h2 (fun v H' wd' s' V q' st S' r' => ?_) hX
  obtain ⟨i,ys,rfl,hi,hy,q2⟩ := q'
  obtain ⟨a,rfl,e⟩ := RepV.mm r'
  obtain ⟨a',ws,n,hm,rw'⟩ := S'.mr.get hy
  have ha : a' = a := by rw [Wd.xs,List.getElem?_map,hm] at e; exact Option.some.inj e
  subst ha
  have hlen : H.length = wd.Mo.length := S.mr.length.symm
  have mtake : ∀ {I : Led} {H : MH} {Mo : Led},MoR w.params I H Mo → ∀ k,MoR w.params I (H.take k) (Mo.take k) := by
    intro I H Mo h
    induction h with
    | nil h => intro k; rw [List.take_nil,List.take_nil]; exact .nil h
    | cons a n r hm ih =>
      intro k
      cases k with
      | zero => exact .nil hm.tabs
      | succ k => exact .cons a n r (ih k)
  have hmem : (a',lstO ws n) ∈ wd'.Mo := List.mem_of_getElem? hm
  have sub : ∀ q ∈ wd'.Mo.take H.length,q ∈ wd'.Mo := fun q hq => List.mem_of_mem_take hq
  have S2 : RepS c w.params m Y (H'.take H.length) { I := (a',lstO ws n) :: wd'.I,Mo := wd'.Mo.take H.length,g := wd'.g } s'.heap := by
    refine ⟨S'.below,S'.dic,S'.fr,fun q hq => S'.nw q ?_,(mtake S'.mr _).mono fun q hq => .tail _ hq,?_,fun e he q hq => ?_,fun q hq x hx => ?_⟩
    · have hq : q ∈ (a',lstO ws n) :: (wd'.I ++ (wd'.Mo.take H.length ++ Y)) := hq
      rcases List.mem_cons.mp hq with rfl | hq
      · exact List.mem_append_right _ (List.mem_append_left _ hmem)
      · rcases List.mem_append.mp hq with h | h
        · simp [h]
        · rcases List.mem_append.mp h with h | h
          · exact List.mem_append_right _ (List.mem_append_left _ (sub q h))
          · simp [h]
    · show ((wd'.Mo.take H.length).map (·.1)).Nodup
      rw [List.map_take]
      exact S'.nd.sublist (List.take_sublist _ _)
    · have hq : q ∈ (a',lstO ws n) :: (wd'.I ++ Y) := hq
      rcases List.mem_cons.mp hq with rfl | hq
      · intro e1
        obtain ⟨j,hj⟩ := List.mem_iff_getElem?.mp he
        have hjl : j < H.length := by
          have := (List.getElem?_eq_some_iff.mp hj).1
          rw [List.length_take] at this
          exact Nat.lt_of_lt_of_le this (Nat.min_le_left _ _)
        rw [List.getElem?_take_of_lt hjl] at hj
        have x1 : wd'.xs[j]? = some a' := by rw [Wd.xs,List.getElem?_map,hj]; exact congrArg some e1.symm
        have x2 : wd'.xs[i]? = some a' := by rw [Wd.xs,List.getElem?_map,hm]; rfl
        obtain ⟨y1,y2⟩ := List.getElem?_eq_some_iff.mp x1
        obtain ⟨y3,y4⟩ := List.getElem?_eq_some_iff.mp x2
        exact List.pairwise_iff_getElem.mp S'.nd j i y1 y3 (by lia) (y2.trans y4.symm)
      · exact S'.sp e (sub e he) q hq
    · rcases List.mem_cons.mp hq with rfl | hq
      · exact fun e1 => (S'.sp _ hmem x (List.mem_append_right _ hx)) e1.symm
      · exact S'.ap q hq x hx
  refine hK _ _ { I := (a',lstO ws n) :: wd'.I,Mo := wd'.Mo.take H.length,g := wd'.g } s' _ q2 ⟨st.same,st.turn,⟨fun q hq nt => .tail _ (st.ext.sub q hq nt),fun k a hk => ?_⟩,st.still⟩ S2 (.lst (.head _) (rw'.mono (fun q hq => .tail _ hq) fun _ _ h => by exact noneX h) .nil)
  show ((wd'.Mo.take H.length).map (·.1))[k]? = some a
  have hkl : k < H.length := by
    have := (List.getElem?_eq_some_iff.mp hk).1
    rw [Wd.xs,List.length_map] at this
    lia
  rw [List.map_take,List.getElem?_take_of_lt hkl]
  exact st.ext.pre k a hk
end
theorem lams_ok {j : Nat} {names : List Str} {ie : IE} (h : lams[j]? = some (names,ie)) : ∀ y ∈ names,(y == ("__classdict__" : Str)) = false := by
  have key : (lams.all fun q => q.1.all fun y => !(y == ("__classdict__" : Str))) = true := by decide +kernel
  intro y hy
  have h1 := List.all_eq_true.mp key _ (List.mem_of_getElem? h)
  have h2 := List.all_eq_true.mp h1 y hy
  simpa using h2
theorem lam_bind {name qual : Str} {body : Expr} {scope : Scope} {cl : List (Str × Addr)} {pm cdv ct : Value} : bindArgs (kla_fn name qual ⟨[],[],none,[],[],none,[]⟩ body scope cl pm cdv ct) ⟨[],[]⟩ = pure [] := by kernel_rfl
section
variable {prog : Program} {w : World} {A₀ A : Around} {s : Shared} {base h₀ : Heap} {outer : List Env} {L : Addr} {m : Str → Option Value} {env : Env} {own : Led} {K : Frag} {p : Program} {loose : List Str} {mean : ExcName → Option Value} {mg mb : Str → Option Value}
  {Q E : Value → Shared → Prop} {name qual : Str} {body : Expr} {scope : Scope} {pm ctv : Value} {c' f : Addr} {cl : List (Str × Addr)}
theorem enterL (B : Below A₀ base outer h₀) (F : Fr h₀ L s.heap m) (X₀ : K.In h₀) (N : News h₀ L s.heap own) (T : Top p loose mean mg mb h₀) (hA : A.frames = some (env :: outer)) (hf : env.frame = some L) (hke : env.scope.kind = .function)
    (ho : (f,kla_obj name qual ⟨[],[],none,[],[],none,[]⟩ body scope cl pm c' ctv) ∈ own) (hcd : s.heap.CodeRec (.ref c') qual) (hroom : A.depth < recursionLimit)
    (h : ∀ g L' h₁ tk,Fr h₀ L g m → Fr g L' h₁ (fun _ => none) → News g L' h₁ own → Below A base (env :: outer) g → K.In g → Top p loose mean mg mb g →
      wpAny (model prog w) (A.deeper (envX qual scope L' f (.ref c') cl)) (eval body (envX qual scope L' f (.ref c') cl))
        (fun v s' => Q v s')
        (fun e s' => wpAny (model prog w) (A.deeper (envX qual scope L' f (.ref c') cl)) (leaving (envX qual scope L' f (.ref c') cl) e) (fun _ s'' => E e s'') (fun e' s'' => E e' s'') s')
        { s with heap := h₁,toks := tk })
    (hco : scope.isCoroutine = false) (hgen : scope.isGenerator = false) (hk : scope.kind = .function) (hcell : ∀ x ∈ scope.names,x.2 ≠ .cell) : wpAny (model prog w) A (call (.ref f) []) Q E s := by
  refine wpAny_call ?_
  refine byC fun no9 => ?_
  obtain ⟨FG,BG,st,_⟩ := groundX (R := fun r s' => match r with | .ok (.ret v) => Q v s' | .ok _ => False | .error e => E e s') B F N hA hf hke
  refine no9 ?_
  clear no9
  refine kla_callFunE hroom (N _ ho).1 rfl hco hgen rfl hcd ?_
  rw [lam_bind]
  refine wpAny_pure (wpAny_newFunctionEnv hcell (by intro y hy; cases hy) (fun h₁ hns hsb => ⟨((T.nolimit).keeps F.keep).fresh _ hsb,?_⟩) hk)
  have hk₁ : ∀ b o,s.heap.get? b = some o → h₁.get? b = some o := fun b o e => hsb.extBut b o (Nat.ne_of_lt (Heap.lt_size e)) (Heap.get?_push_of_some _ e)
  refine kla_codeExpr (e := body) (env := envX qual scope s.heap.objs.size f (.ref c') cl) ?_
  exact h _ s.heap.objs.size h₁ _ FG ⟨hns,fun b o e => hk₁ b o (of_hideAll _ e),Nat.le_of_eq (hideAll_size _ _)⟩
    (fun p hp => ⟨hk₁ _ _ (N p hp).1,Nat.ne_of_lt (Heap.lt_size (N p hp).1),hideAll_none _ (List.mem_map_of_mem hp)⟩) BG (X₀.keeps st) (T.keeps st)
end
section
variable {ql : Bool} {prog : Program} {w : World} {K : Frag} {p : Program} {loose : List Str} {mean : ExcName → Option Value} {mg mb : Str → Option Value} {D : Nat}
noncomputable def lamCon (f : EF) (j : Nat) : Con := fun caps H Q X => match lams[j]? with
  | some (_,ie) => f ie (caps.map some) H Q X
  | none => False
theorem lam_sound {f : EF} {j : Nat} (hf : ESound prog w K p loose mean mg mb ql D f) : SoundL prog w K p loose mean mg mb ql j (D + 1) (lamCon f j) := by
  intro c args H Q X m Y wd s a Qr Er O hC S r hroom hun hK hX
  refine byC fun no9 => ?_
  obtain ⟨_,us,ea,fa,ru⟩ := RepV.f r
  refine no9 ?_
  clear no9
  cases Value.ref.inj ea
  refine byC fun no9 => ?_
  obtain ⟨name,qual,params,body,scope,clos,pm,c',ctv,names,ie,h1,h2,⟨n,h3⟩,h4,h5,h6⟩ := fa
  obtain ⟨rfl,hk,hco,hgen,hcel,names',ie',hj',hn,hchk⟩ := lamC_parts h3
  refine no9 ?_
  clear no9
  rw [h4] at hj'; cases hj'
  unfold lamCon at hC
  rw [h4] at hC
  have hC : f ie (args.map some) H Q X := hC
  refine byC fun no9 => ?_
  obtain ⟨hc0,oc,ov,u,g1,g2,g3⟩ := h2
  refine no9 ?_
  clear no9
  have hkn : K.In wd.g := S.kin O.kin
  refine enterL (own := wd.all Y) S.below S.fr hkn S.nw (O.top.keeps S.below.stays) rfl rfl O.fn (List.mem_append_left _ h1) ⟨c',oc,ov,u,rfl,S.allI _ g1,g2,g3⟩ ?_ ?_ hco hgen hk hcel
  · show c.dp < recursionLimit
    lia
  intro g0 L' h₁ tk FG F' N' B' X' T'
  let cx : FrameCx := { dp := c.dp + 1,un := c.un + 3,gd := c.gd,cn := qual,cs := scope,L := L',a := a,ccd := .ref c',cl := clos,outer := c.env :: c.outer,A₀ := c.A,base := c.base }
  let t : Cxt := { c := cx,env := cx.env,sc := ⟨names,scope.names,[],true,none⟩,m := fun _ => none,Y := Y,l := args.map some }
  let wd' : Wd := { I := wd.I,Mo := wd.Mo,g := g0 }
  have S' : RepS cx w.params t.m t.Y H wd' h₁ := by
    refine ⟨B',?_,F',N',S.mr,S.nd,S.sp,S.ap⟩
    intro b hb
    have hb : b ∈ c.L :: c.frs := hb
    rcases List.mem_cons.mp hb with rfl | hb
    · obtain ⟨o,es,ep,h1,h2,_⟩ := FG.ns
      exact ⟨o,es,ep,h1,h2⟩
    · obtain ⟨o,es,n,h1,h2⟩ := S.dic b hb
      exact ⟨o,es,n,FG.keep _ _ h1,h2⟩
  have O' : Cxt.Ok K p loose mean mg mb D t := by
    refine ⟨⟨O.kin,O.top,hk⟩,rfl,rfl,hk,fun x hx => hx,fun x hx => ((List.not_mem_nil hx).elim),?_,fun _ _ h => (noneX h),?_⟩
    · show c.dp + 1 + D < recursionLimit
      lia
    · show c.un + 3 + 8 * D + 200 < cLine
      lia
  have L0 : LocOk prog w t wd' := by
    intro k v e
    have e : (args.map some)[k]? = some (some v) := e
    rw [List.getElem?_map] at e
    have ha : args[k]? = some v := by
      cases h : args[k]? with
      | none => rw [h] at e; exact noneX e
      | some z => rw [h] at e; simpa using e
    refine byC fun no9 => ?_
    obtain ⟨V,hV,rV⟩ := ru.get ha
    have hkl : k < names.length := by rw [← h5]; exact (List.getElem?_eq_some_iff.mp hV).1
    have hx : names[k]? = some names[k] := List.getElem?_eq_getElem hkl
    obtain ⟨ca,o,a1,a2,a3⟩ := h6 k _ V hx hV
    obtain ⟨b1,b2⟩ := hn names[k] (List.getElem_mem hkl)
    refine no9 ?_
    clear no9
    refine ⟨names[k],V,hx,rV,?_,fun h => ((List.not_mem_nil h).elim)⟩
    intro A E Q s1 pos g F hY hI q
    exact wpAny_Name (wpAny_loadName_free hk b1 a1 ⟨o,hI _ a2 (Tb.no fun ps h => by rw [a3] at h; cases h),a3⟩ q (lams_ok h4 _ (List.getElem_mem hkl))) (nodebug b2)
  refine hf n ie body t hchk O' H wd' { s with heap := h₁,toks := tk } Q X S' L0 hC _ _ (fun v H2 wd2 s2 V q2 st2 S2 r2 => ?_) (fun cl H2 wd2 s2 e x st2 rc => ?_)
  · obtain ⟨g₂,T2,F2,B2,D2,hs2⟩ := ground_back (h := s2.heap) S.below FG st2.turn S.dic S2.fr.keep ql st2.still
    have S3 : RepS c w.params m Y H2 { I := wd2.I,Mo := wd2.Mo,g := g₂ } s2.heap := by
      refine ⟨B2,D2,F2,fun q hq => ⟨(S2.nw q hq).1,fun e => ?_,T2.none_ _ ?_⟩,S2.mr,S2.nd,S2.sp,S2.ap⟩
      · obtain ⟨o,_,_,h1,_⟩ := FG.ns
        obtain ⟨sl,h2⟩ := st2.turn.up h1
        have h3 := (S2.nw q hq).2.2
        have h2 : wd2.g.get? c.L = _ := h2
        have h3 : wd2.g.get? q.1 = none := h3
        rw [e,h2] at h3; exact noneX (Eq.symm h3)
      · cases h1 : wd.g.get? q.1 with
        | none => rfl
        | some o =>
          obtain ⟨sl,h2⟩ := st2.turn.up (FG.keep _ _ h1)
          have h3 : wd2.g.get? q.1 = none := (S2.nw q hq).2.2
          have h2 : wd2.g.get? q.1 = _ := h2
          rw [h2] at h3; exact noneX (Eq.symm h3)
    have st3 : Step ql c wd s { I := wd2.I,Mo := wd2.Mo,g := g₂ } s2 := ⟨Same.trans .mk st2.same,T2,⟨st2.ext.sub,st2.ext.pre⟩,hs2⟩
    exact hK v H2 _ s2 _ q2 st3 S3 r2
  · refine leave_out (c := cx) hk rc.s fun a h' he hF hu => ?_
    obtain ⟨wd3,st3,rc3⟩ := rc_back (c := c) (c' := cx) (s := s) rfl rfl S.below S.dic FG st2.ext.sub st2.ext.pre st2.turn st2.still (Same.trans .mk st2.same) rc.toRB (fun _ h => h) he hF hu
    exact hX cl H2 wd3 _ e x st3 rc3
end
noncomputable def refB (g : Nat) (z : Option (Option Value)) : Bool := z == some (some (.ref g))
theorem refB_is {g : Nat} {z : Option (Option Value)} (h : refB g z = true) : z = some (some (.ref g)) := beq_iff_eq.mp h
noncomputable def fnsB (K : Frag) : Bool := ftab.all fun q => refB q.2 (nsIn K mainGlobals q.1) && keepIn K (.ref q.2)
noncomputable def txtsB (K : Frag) : Bool := gtab.all fun q => (avS q.2).any fun y => (nsIn K mainGlobals q.1).any fun z => z.any fun v => v.isStr y
noncomputable def noneB (z : Option (Option Value)) : Bool := z == some none
noncomputable def biB (x : String) (z : Option (Option Value)) : Bool := z == some (some (.builtin x))
noncomputable def insB (K : Frag) (C : Nat) : Bool := biB "object.__getattribute__" (findIn K (.ref C) "__getattribute__") && noneB (findIn K (.ref C) "__getattr__") && (fieldsOf C).all (fun x => noneB (findIn K (.ref C) x)) && (clsIn K C).any (·.hasDict)
noncomputable def mthB (K : Frag) : Bool := mtab.all fun q => refB q.2 (findIn K (.ref (mcls q.2)) q.1) && typeIn K (.ref q.2) == some (.type "function") && (keepIn K (.ref q.2) && !(fieldsOf (mcls q.2)).contains q.1 && (mcls q.2 == 196 || mcls q.2 == 587))
theorem lookup_memN {x : Str} {g : Nat} : ∀ {l : List (Str × Nat)},l.lookup x = some g → (x,g) ∈ l
  | [],h => noneX h
  | (n,j) :: r,h => by
    rw [List.lookup] at h
    split at h
    · rename_i hb; cases Option.some.inj h; rw [eq_of_beq hb]; exact .head _
    · exact .tail _ (lookup_memN h)
theorem noneB_is {z : Option (Option Value)} (h : noneB z = true) : z = some none := beq_iff_eq.mp h
theorem biB_is {x : String} {z : Option (Option Value)} (h : biB x z = true) : z = some (some (.builtin x)) := beq_iff_eq.mp h
theorem kok_of {K : Frag} (h1 : fnsB K = true) (h2 : txtsB K = true) (h3 : ∀ b : BF,noneB (nsIn K mainGlobals b.name) = true) (h4 : noneB (nsIn K mainGlobals "enumerate") = true) (h5 : insB K 196 = true) (h6 : insB K 587 = true) (h7 : mthB K = true) : KOk K where
  fns := fun x g hx => by
    have h := and2 (List.all_eq_true.mp h1 _ (lookup_memN hx))
    exact ⟨refB_is h.1,h.2⟩
  txts := fun i x v hx => by
    have h := List.all_eq_true.mp h2 _ (List.mem_of_getElem? hx)
    refine byC fun no9 => ?_
    obtain ⟨y,hy,h⟩ := (Option.any_eq_true _ _).mp h
    obtain ⟨z,hz,h⟩ := (Option.any_eq_true _ _).mp h
    obtain ⟨v',hv,h⟩ := (Option.any_eq_true _ _).mp h
    refine no9 ?_
    clear no9
    cases avS_eq hy
    obtain ⟨u,rfl⟩ : ∃ u,v' = .str y u := by
      cases v' <;> first | exact falseX h | exact ⟨_,by rw [beq_iff_eq.mp h]⟩
    exact ⟨y,u,rfl,by rw [hz,hv]⟩
  bfs := fun b => ⟨noneB_is (h3 b),by cases b <;> kernel_rfl,by cases b <;> decide +kernel⟩
  enm := ⟨noneB_is h4,by kernel_rfl⟩
  ga := fun C hC => by
    have key : ∀ C,insB K C = true → findIn K (.ref C) "__getattribute__" = some (some (.builtin "object.__getattribute__")) ∧ findIn K (.ref C) "__getattr__" = some none := fun C h =>
      let h := and4 h; ⟨biB_is h.1,noneB_is h.2.1⟩
    rcases hC with rfl | rfl
    · exact key _ h5
    · exact key _ h6
  fld := fun C x hC hx => by
    have key : ∀ C,insB K C = true → x ∈ fieldsOf C → findIn K (.ref C) x = some none := fun C h hx => noneB_is (List.all_eq_true.mp (and4 h).2.2.1 x hx)
    rcases hC with rfl | rfl
    · exact key _ h5 hx
    · exact key _ h6 hx
  dic := fun C hC => by
    have key : ∀ C,insB K C = true → ∃ cd,clsIn K C = some cd ∧ cd.hasDict = true := fun C h => (Option.any_eq_true _ _).mp (and4 h).2.2.2
    rcases hC with rfl | rfl
    · exact key _ h5
    · exact key _ h6
  mth := fun x g hx => by
    have h := and3 (List.all_eq_true.mp h7 _ (lookup_memN hx))
    have h8 := and3 h.2.2
    exact ⟨refB_is h.1,beq_iff_eq.mp h.2.1,h8.1,by simpa using h8.2.1,by simpa using h8.2.2⟩
theorem xcls_of {K : Frag} {C : Nat} (h1 : xcIn K C = true) (h2 : refB 36 (findIn K (.ref C) "__init__") = true) (h3 : noneB (findIn K (.ref C) "what") = true) (h4 : noneB (findIn K (.ref C) "at") = true) (h5 : biB "object.__setattr__" (findIn K (.ref C) "__setattr__") = true)
    (h6 : subIn K (.ref C) (.type "object") = some true) : XCls K C :=
  ⟨h1,refB_is h2,noneB_is h3,noneB_is h4,biB_is h5,h6⟩
theorem initAt_of {K : Frag} {oc : Value} {od : Option Addr} {osl : Array (Option Value)} {name qual : Str} {params : Arguments} {scope : Scope} {kV doc pm cdv ct : Value} {an : Option Addr} {pa pb pc pd pe pf qa qb qc qd ra rb rc rd : Pos} {T : Addr} {o : Obj} {items : Array Value} {n : Nat} {k : Value → Value → Option (Array Value) → Sem (List (Str × Value))}
    (h1 : K.lookup 36 = some ⟨oc,od,.func (fnOf name qual params [.Expr (.Call (.Attribute (.Name "Exception" pa) "__init__" pb) [.Name "self" pc,.Name "what" pd] [] pe) pf,
    .Assign [.Attribute (.Name "self" qa) "what" qb] (.Name "what" qc) qd,.Assign [.Attribute (.Name "self" ra) "at" rb] (.Name "at" rc) rd] scope (.ref T) kV doc pm an cdv ct),osl⟩)
    (h2 : codeIn K cdv qual = true) (h3 : (pb.endLine == pe.line) = true) (h4 : K.lookup T = some o) (h5 : o.data = .seq items n)
    (h6 : ∀ v1 v2 : Value,bindArgs (fnOf name qual params [.Expr (.Call (.Attribute (.Name "Exception" pa) "__init__" pb) [.Name "self" pc,.Name "what" pd] [] pe) pf,
    .Assign [.Attribute (.Name "self" qa) "what" qb] (.Name "what" qc) qd,.Assign [.Attribute (.Name "self" ra) "at" rb] (.Name "at" rc) rd] scope (.ref T) kV doc pm an cdv ct) ⟨[v1,v2],[]⟩ = seqItems? (.ref T) >>= k v1 v2) (h7 : ∀ v1 v2 : Value,k v1 v2 (some items) = pure ([("self",v1),("what",v2),("at",.none)] : List (Str × Value)))
    (h8 : scope.names.lookup ("self" : Str) = some .local ∧ scope.names.lookup ("what" : Str) = some .local ∧ scope.names.lookup ("at" : Str) = some .local ∧ scope.names.lookup ("Exception" : Str) = some .globalImplicit)
    (h9 : ((cellsFrom 0 scope.names []).map (·.1)).Nodup) (h10 : scope.isCoroutine = false) (h11 : scope.isGenerator = false) (h12 : scope.kind = .function) : InitAt K :=
  ⟨oc,od,osl,name,qual,params,scope,.ref T,kV,doc,pm,cdv,ct,an,pa,pb,pc,pd,pe,pf,qa,qb,qc,qd,ra,rb,rc,rd,T,o,items,n,h1,h2,h3,h4,h5,rfl,fun v1 v2 => ⟨k v1 v2,h6 v1 v2,h7 v1 v2⟩,h8,h9,h10,h11,h12⟩
noncomputable def noListsB (K : Frag) : Bool := K.all fun p => match p.2.cls with | .type n => !(n == "list") | _ => true
section
variable {g0 : Heap} {a3 : Addr} {o3 : Obj} {loose : List Str} {mean : ExcName → Option Value} {mg mb : Str → Option Value} {K : Frag}
theorem hid_get (h3 : g0.get? a3 = some o3) (hc : o3.cls = .type "list") {b : Addr} {o : Obj} (e : g0.get? b = some o) (hn : o.cls ≠ .type "list") : (hideAll g0 [a3]).get? b = some o := hideAll_get _ e fun hm => by
  rw [List.mem_singleton.mp hm,h3] at e; cases Option.some.inj e; exact hn hc
theorem hid_ns {n : Nat} (h3 : g0.get? a3 = some o3) (hd : ∃ vs n,o3.data = .seq vs n) {a : Addr} {mm : Str → Option Value} (x : g0.Ns a mm) : (hideAll g0 [a3]).Ns a mm :=
  by obtain ⟨o,es,ep,e,hd',r⟩ := x; exact ⟨o,es,ep,(hideAll_get _ e fun hm => by
    rw [List.mem_singleton.mp hm,h3] at e; cases Option.some.inj e; obtain ⟨vs,n,h⟩ := hd; rw [h] at hd'; cases hd'),hd',r⟩
theorem hid_K (h3 : g0.get? a3 = some o3) (hc : o3.cls = .type "list") (X : K.In g0) (hK : noListsB K = true) : K.In (hideAll g0 [a3]) := fun a o e => by
  refine hid_get h3 hc (X a o e) fun q => ?_
  have h2 := List.all_eq_true.mp hK (a,o) (mem_of_lookupK e)
  simp only [q] at h2
  simp at h2
theorem hid_top (h3 : g0.get? a3 = some o3) (hc : o3.cls = .type "list") (hd : ∃ vs n,o3.data = .seq vs n) (T : Top topProg loose mean mg mb g0) : Top topProg loose mean mg mb (hideAll g0 [a3]) where
  g := hid_ns (n := 0) h3 hd T.g
  b := hid_ns (n := 0) h3 hd T.b
  nolimit := by obtain ⟨mc,a,r⟩ := T.nolimit; exact ⟨mc,hid_ns (n := 0) h3 hd a,r⟩
  nodigits := by obtain ⟨mc,a,r⟩ := T.nodigits; exact ⟨mc,hid_ns (n := 0) h3 hd a,r⟩
  fn := fun d hd => absurd (show d ∈ ([] : List DefRec) from hd) List.not_mem_nil
  own := fun o ho => absurd (show o ∈ ([] : List OwnSpec) from ho) List.not_mem_nil
  const := fun x d e => by cases (show (none : Option PyData) = some d from e)
  free := T.free
  builtins := T.builtins
  tab := fun d hd => absurd (show d ∈ ([] : List DefRec) from hd) List.not_mem_nil
  bmain := by obtain ⟨bm,ob,a1,a2,a3,a4,r⟩ := T.bmain; exact ⟨bm,ob,a1,a2,hid_get h3 hc a3 (fun q => absurd (Value.type.inj (q.symm.trans a4)) (by decide)),a4,r⟩
  seer := fun e => absurd (show false = true from e) Bool.false_ne_true
end
theorem intsR {P : Params} {I : Led} {xs : List Addr} {vs : List Value} {ns : List Int} (h : IntsAre vs ns) : Rs P I xs (ns.map .int) vs := by
  induction h with
  | nil => exact .nil
  | cons z t _ ih => exact .int _ _ ih
section
variable {prog : Program} {w : World} {K : Frag} {loose : List Str} {mean : ExcName → Option Value} {mg mb : Str → Option Value} {D : Nat}
theorem law_run {g : SF} {sc : Sc} {scope : Scope} {body : List Stmt} {n : Nat} {ib : List IS} {qual : Str} {cdv : Value} {s : Shared} {h₁ : Heap} {tk : Nat} {fa L a3 : Addr} {wc : Obj} {vals : List Value} {nums : List Int} {g0 : Heap} {QQ : Flow → Shared → Prop} {E1 : Value → Shared → Prop}
    (hg : SSound prog w K topProg loose mean mg mb false D g) (DO : BodyOk K sc ["script"] scope body n ib qual cdv) (hnl : noListsB K = true) (hroom : callerA.depth + 1 + D < recursionLimit) (hun : callerA.units + 3 + 8 * D + 200 < cLine)
    (X' : K.In g0) (T' : Top topProg loose mean mg mb g0) (F' : Fr g0 L h₁ (bindL (envOfC qual scope L fa cdv).kindOf [("script",Value.ref a3)] fun _ => none)) (N' : News g0 L h₁ [(L + 1,wc),(645,tabObj #[]),(640,tabObj #[])])
    (CA : CellsAre (bindC (envOfC qual scope L fa cdv).kindOf [("script",Value.ref a3)] fun _ => none) (cellsFrom (L + 1) scope.names []) [(L + 1,wc)]) (lst : g0.IsList a3 vals.toArray) (hi : IntsAre vals nums)
    (hb : g ib (some (.ext (nums.map .int)) :: List.replicate (sc.slots.length - 1) none) [] (fun fl _ _ => fl = .ret (.bool true)) (fun _ _ => False))
    (hQ : ∀ s' m,Same { s with heap := h₁,toks := tk } s' → Fr g0 L s'.heap m → GrownAt 645 s'.heap → GrownAt 640 s'.heap → QQ (.ret (.bool true)) s') :
    wpAny (model prog w) (callerA.deeper (envOfC qual scope L fa cdv)) (execs body (envOfC qual scope L fa cdv)) QQ
      (fun e s' => wpAny (model prog w) (callerA.deeper (envOfC qual scope L fa cdv)) (leaving (envOfC qual scope L fa cdv) e) (fun _ s'' => E1 e s'') (fun e' s'' => E1 e' s'') s') { s with heap := h₁,toks := tk } := by
  refine byC fun no9 => ?_
  obtain ⟨o3,h3,hc3,n3,hd3⟩ := lst
  refine no9 ?_
  clear no9
  have a3L : a3 < L := Nat.lt_of_lt_of_le (Heap.lt_size h3) F'.above
  have new0 : ∀ {b : Addr},g0.get? b = none → (hideAll g0 [a3]).get? b = none := fun {b} e => by
    cases q : (hideAll g0 [a3]).get? b with
    | none => rfl
    | some o => rw [of_hideAll _ q] at e; exact noneX (Eq.symm e)
  have n645 := N' (645,tabObj #[]) (.tail _ (.head _))
  have n640 := N' (640,tabObj #[]) (.tail _ (.tail _ (.head _)))
  have nc := N' (L + 1,wc) (.head _)
  let wd : Wd := { I := [(a3,o3),(645,tabObj #[]),(640,tabObj #[])],Mo := [],g := hideAll g0 [a3] }
  have tabs : TabsOk wd.I := by
    intro P hP
    refine ⟨#[],?_,.nil,fun pos v e => by exact noneX e⟩
    rcases hP with rfl | rfl
    · exact .tail _ (.tail _ (.head _))
    · exact .tail _ (.head _)
  have F2 : Fr (hideAll g0 [a3]) L h₁ (bindL (envOfC qual scope L fa cdv).kindOf ([("script" : Str)].zip [Value.ref a3]) fun _ => none) :=
    ⟨F'.ns,fun b o e => F'.keep b o (of_hideAll _ e),Nat.le_trans (Nat.le_of_eq (hideAll_size _ _)) F'.above⟩
  have N2 : News (hideAll g0 [a3]) L h₁ ([(L + 1,wc)] ++ wd.all []) := by
    intro q hq
    have hq : q ∈ [(L + 1,wc),(a3,o3),(645,tabObj #[]),(640,tabObj #[])] := hq
    simp only [List.mem_cons,List.not_mem_nil,or_false] at hq
    rcases hq with rfl | rfl | rfl | rfl
    · exact ⟨nc.1,nc.2.1,new0 nc.2.2⟩
    · exact ⟨F'.keep _ _ h3,Nat.ne_of_lt a3L,hideAll_none _ (.head _)⟩
    · exact ⟨n645.1,n645.2.1,new0 n645.2.2⟩
    · exact ⟨n640.1,n640.2.1,new0 n640.2.2⟩
  have cell_ne : ∀ q ∈ [(L + 1,wc)],∀ z ∈ wd.all [],q.1 ≠ z.1 := by
    intro q hq z hz
    cases List.mem_singleton.mp hq
    have hz : z ∈ [(a3,o3),(645,tabObj #[]),(640,tabObj #[])] := hz
    simp only [List.mem_cons,List.not_mem_nil,or_false] at hz
    have key : ∀ {P : Addr} {ps : Array Value},h₁.get? P = some (tabObj ps) → wc.data ≠ (tabObj ps).data → L + 1 ≠ P := fun {P ps} h hne e => by
      rw [← e,nc.1] at h
      cases Option.some.inj h
      exact hne rfl
    have hwc : ∃ v,wc.data = .cell v := by
      have : ∀ {cm : Str → Option Value} {cs : List (Str × Addr)} {cells : Led},CellsAre cm cs cells → ∀ q ∈ cells,∃ v,q.2.data = .cell v := by
        intro cm cs cells Y
        induction Y with
        | nil => intro q hq; cases hq
        | cons hd _ ih =>
          intro q hq
          rcases List.mem_cons.mp hq with rfl | hq
          · exact ⟨_,hd⟩
          · exact ih q hq
      exact this CA _ (.head _)
    obtain ⟨v,hv⟩ := hwc
    rcases hz with rfl | rfl | rfl
    · exact Nat.ne_of_gt (Nat.lt_succ_of_lt a3L)
    · exact key n645.1 (by rw [hv]; exact fun h => nomatch h)
    · exact key n640.1 (by rw [hv]; exact fun h => nomatch h)
  obtain ⟨t,wd',ht,he,hsc,hY,hl,rfl,S',O',FO,L0⟩ := entry_ok (D := D) (f := fa) (dp := callerA.depth + 1) (un := callerA.units + 3) (gd := callerA.guards) (outer := []) (A₀ := callerA) (base := hideAll g0 [a3]) (Y := []) (H := []) (args := [.ext (nums.map .int)]) (vs := [.ref a3]) (wd := wd) DO
    (hid_K h3 hc3 X' hnl) (hid_top h3 hc3 ⟨_,_,hd3⟩ T') hroom hun rfl (.ext (.head _) hc3 (by rw [hd3]) (intsR hi) .nil) (.nil tabs) .nil (fun e he => by cases he) (fun q hq x hx => by cases hx) (below_caller _) ktsDicts_nil F2 N2 CA cell_ne
  obtain ⟨tc,te,tsc,tm,tY,tl⟩ := t
  dsimp only at ht he hsc hY hl
  subst ht hsc hY hl
  subst he
  refine hg n ib body _ DO.chk O' FO [] _ { s with heap := h₁,toks := tk } _ _ S' L0 hb _ _ (fun _ => PassesOwn.leaving) (fun fl fV l2 H2 m2 Y2 wd2 s2 q2 a2 hfl => ?_) (fun cl H2 m2 Y2 wd2 s2 e x st2 rc kk => x.elim)
  subst q2
  cases fV <;> try (cases hfl; done)
  rename_i V
  have hfl : wd2.rep w.params [.bool true] [V] := hfl
  cases RepV.b hfl
  have tg : ∀ P,P = 640 ∨ P = 645 → GrownAt P s2.heap := fun P hP => by
    obtain ⟨ps,hm,_⟩ := a2.S.mr.tabs P hP
    exact ⟨ps,a2.S.allI _ hm⟩
  refine hQ s2 m2 a2.st.same ⟨a2.S.fr.ns,fun b o e => ?_,F'.above⟩ (tg _ (.inr rfl)) (tg _ (.inl rfl))
  refine byC fun no9 => ?_
  by_cases hb3 : b = a3
  · refine no9 ?_
    clear no9
    subst hb3
    rw [h3] at e; cases Option.some.inj e
    exact a2.S.allI _ (a2.st.ext.sub _ (List.mem_append_right _ (.head _)) (Tb.cl fun h => by rw [hc3] at h; cases h))
  · refine no9 ?_
    clear no9
    exact a2.S.fr.keep b o (a2.st.turn.other b o (hideAll_get _ e fun hm => hb3 (List.mem_singleton.mp hm)) (fun h => (List.not_mem_nil h).elim))
end
noncomputable def bodyChk (lo : Lo) (n : Nat) (ib : List IS) (scope : Scope) (body : List Stmt) : Bool :=
  lo.2.2.all (fun x => scope.names.lookup x == some .cell) && (lo.2.1.all (fun x => (lo.2.2.contains x || scope.names.lookup x == some .local) && notDebug x) && lo.2.1.take lo.1.length == lo.1) && scope.kind == .function && chkS n (scOf lo 677 scope.names) ib body
theorem bodyOk_of {K : Frag} {lo : Lo} {n : Nat} {ib : List IS} {scope : Scope} {body : List Stmt} {qual : Str} {cdv : Value} (hc : bodyChk lo n ib scope body = true) (hnd : lo.2.1.Nodup) (hcn : ((cellsFrom 0 scope.names []).map (·.1)).Nodup) : BodyOk K (scOf lo 677 scope.names) lo.1 scope body n ib qual cdv := by
  have h1 := and4 hc
  have h2 := List.all_eq_true.mp h1.1
  have h3 := and2 h1.2.1
  have h5 := List.all_eq_true.mp h3.1
  refine ⟨rfl,fun x hx => beq_iff_eq.mp (h2 x hx),fun x hx hcx => ?_,fun x hx => (and2 (h5 x hx)).2,hnd,beq_iff_eq.mp h3.2,hcn,beq_iff_eq.mp h1.2.2.1,rfl,(fun cd P h => by exact noneX h),h1.2.2.2⟩
  have h6 := (and2 (h5 x hx)).1
  rw [Bool.or_eq_true] at h6
  rcases h6 with h6 | h6
  · exact absurd (show x ∈ lo.2.2 by simpa using h6) hcx
  · exact beq_iff_eq.mp h6
inductive ER (α : Type) where | ok (a : α) | ex (c : Nat) | no
noncomputable def ER.bind {α β : Type} (r : ER α) (k : α → ER β) : ER β := match r with | .ok a => k a | .ex c => .ex c | .no => .no
noncomputable def ER.opt {α : Type} : Option α → ER α | some a => .ok a | none => .no
noncomputable def ER.holds {α : Type} (r : ER α) (H : MH) (Q : α → MH → Prop) (X : Nat → MH → Prop) : Prop := match r with | .ok a => Q a H | .ex c => X c H | .no => False
noncomputable abbrev EvE := IE → Loc → ER AV
noncomputable abbrev EvS := List IS → Loc → ER (FL × Loc)
noncomputable abbrev EvF := Nat → List AV → ER AV
noncomputable def binCI (op : Operator) (i j : Int) : Option AV := match op with
  | .Add => some (.int (i + j)) | .Sub => some (.int (i - j)) | .BitAnd => some (.int (Builtin.bitAnd i j))
  | .Mult => if (decide (Builtin.Int.intBits i > shortFactorBits) && decide (Builtin.Int.intBits j > shortFactorBits) && Builtin.Int.intTooBig (↑(Builtin.Int.intBits i) + ↑(Builtin.Int.intBits j))) = true then none else some (.int (i * j))
  | .Mod => if j = 0 then none else some (.int (i.fmod j))
  | _ => none
noncomputable def binCS (op : Operator) (x y : Str) : Option AV := match op with | .Add => if x.length + y.length ≤ 1000 then some (.str (x ++ y)) else none | _ => none
noncomputable def binCL (op : Operator) (xs ys : List AV) : Option AV := match op with | .Add => if xs.length + ys.length ≤ 100000 then some (.lst (xs ++ ys)) else none | _ => none
noncomputable def binC (op : Operator) (a b : AV) : Option AV := match a with
  | .int i => (match b with | .int j => binCI op i j | _ => none)
  | .str x => (match b with | .str y => binCS op x y | _ => none)
  | .lst xs => (match b with | .lst ys => binCL op xs ys | _ => none)
  | _ => none
mutual
noncomputable def toPy : AV → Option PyData
  | .none => some .none
  | .bool b => some (.bool b)
  | .int n => some (.int n)
  | .str x => some (.str x)
  | .tup xs => (toPys xs).map .tuple
  | .lst xs => (toPys xs).map .list
  | .bytes _ | .inst _ _ | .mu _ | .val _ | .rng _ _ _ | .ext _ | .fn _ _ => none
noncomputable def toPys : List AV → Option (List PyData)
  | [] => some []
  | v :: r => (toPy v).bind fun d => (toPys r).map fun l => d :: l
end
noncomputable def inOC (op : CmpOp) (x : Str) (l : List Str) : Option Bool := match op with | .In => some (l.any (· == x)) | .NotIn => some (!(l.any (· == x))) | _ => none
noncomputable def isOC (op : CmpOp) (c : Bool) : Option Bool := match op with | .Is => some c | .IsNot => some (!c) | _ => none
noncomputable def eqOC (op : CmpOp) (c : Bool) : Option Bool := match op with | .Eq => some c | .NotEq => some (!c) | _ => none
noncomputable def cmpC (op : CmpOp) (a b : AV) : Option Bool := match b with
  | .none => (isNone a).bind (isOC op)
  | .int j => (match a with | .int i => cmpI op i j | _ => none)
  | .str y => (match a with | .str x => cmpS op x y | _ => none)
  | .bool y => (match a with | .bool x => cmpB op x y | _ => none)
  | .lst ys => (match a with
    | .str x => (strsOf ys).bind (inOC op x)
    | .lst xs => (toPys xs).bind fun d => (toPys ys).bind fun e => if PySem.SeqAt.shaped (.list d) && PySem.SeqAt.shaped (.list e) then eqOC op (PyData.eqvAll d e) else none
    | _ => none)
  | .tup ys => (match a with
    | .str x => (strsOf ys).bind (inOC op x)
    | .tup xs => (toPys xs).bind fun d => (toPys ys).bind fun e => if PySem.SeqAt.shaped (.tuple d) && PySem.SeqAt.shaped (.tuple e) then eqOC op (PyData.eqvAll d e) else none
    | _ => none)
  | _ => none
noncomputable def idxCL (xs : List AV) (k : Int) : Option AV := if 0 ≤ k ∧ k < xs.length ∧ xs.length ≤ 100000 then some (xs.getD k.toNat .none) else none
noncomputable def idxC (o i : AV) : Option AV := match i with
  | .int k => (match o with | .lst xs => idxCL xs k | .tup xs => idxCL xs k | _ => none)
  | _ => none
noncomputable def cutC (x : Str) (a b : Option Int) : Option AV := match a with
  | none => (match b with
    | some b => if 0 ≤ b ∧ b ≤ 100000 ∧ x.length ≤ 100000 then some (.str (Txt.slice x none (some b))) else none
    | none => none)
  | some a => (match b with
    | none => if 0 ≤ a ∧ a ≤ 100000 ∧ x.length ≤ 100000 then some (.str (Txt.slice x (some a) none)) else none
    | some b => if 0 ≤ a ∧ a ≤ 100000 ∧ 0 ≤ b ∧ b ≤ 100000 ∧ x.length ≤ 100000 then some (.str (Txt.slice x (some a) (some b))) else none)
noncomputable def sliceC (o : AV) (lo hi : Option AV) : Option AV := match o with
  | .str x => (partI lo).bind fun a => (partI hi).bind fun b => cutC x a b
  | _ => none
noncomputable def bfCI (b : BF) (n : Int) : Option AV := match b with | .str => if 0 ≤ n ∧ n < 1000000 then some (.str (textOf n)) else none | .range => some (.rng 0 n 1) | _ => none
noncomputable def bfCB (b : BF) (c : Bool) : Option AV := match b with | .int => some (.int (if c then 1 else 0)) | _ => none
noncomputable def bfCS (b : BF) (x : Str) : Option AV := match b with
  | .int => ((List.range 100).find? (fun (n : Nat) => decide (x = textOf n))).map fun (n : Nat) => AV.int (n : Int)
  | .len => if x.length ≤ 100000 then some (.int x.length) else none
  | _ => none
noncomputable def bfCL (b : BF) (xs : List AV) : Option AV := match b with | .len => if xs.length ≤ 100000 then some (.int xs.length) else none | _ => none
noncomputable def bfC1 (b : BF) (a : AV) : Option AV := match a with | .int n => bfCI b n | .bool c => bfCB b c | .str x => bfCS b x | .lst xs => bfCL b xs | _ => none
noncomputable def bfC2 (b : BF) (a c : AV) : Option AV := match b with | .range => (avI a).bind fun a => (avI c).map fun c => .rng a c 1 | _ => none
noncomputable def bfC (b : BF) (args : List AV) : Option AV := match args with
  | [a] => bfC1 b a
  | [a,c] => bfC2 b a c
  | _ => none
noncomputable def smC0 (s : SM) (x : Str) : Option AV := match s with
  | .split => if x.length ≤ 10000 then some (.lst ((Txt.words x).map .str)) else none
  | .upper => if x.length ≤ 10000 then some (.str (Txt.upper x)) else none
  | _ => none
noncomputable def smC1 (s : SM) (xs : List AV) (a : AV) : Option AV := match s with
  | .index => (avS a).bind fun x => (strsOf xs).bind fun ys => if x ∈ ys ∧ ys.length ≤ 100000 then some (.int (ys.idxOf x)) else none
  | _ => none
noncomputable def smC (s : SM) (o : AV) (args : List AV) : Option AV := match args with
  | [] => (match o with | .str x => smC0 s x | _ => none)
  | [a] => (match o with | .lst xs => smC1 s xs a | _ => none)
  | _ => none
noncomputable def smOkC (s : SM) (o : AV) : Bool := match o with
  | .lst _ => (match s with | .index => true | _ => false)
  | .str _ => (match s with | .split | .lower | .upper | .find | .join => true | _ => false)
  | _ => false
noncomputable def evsC (f : EvE) : List IE → Loc → ER (List AV)
  | [],_ => .ok []
  | e :: r,l => (f e l).bind fun v => (evsC f r l).bind fun vs => .ok (v :: vs)
noncomputable def evoC (f : EvE) : Option IE → Loc → ER (Option AV)
  | none,_ => .ok none
  | some e,l => (f e l).bind fun v => .ok (some v)
noncomputable def boolC {α : Type} (v : AV) (a b : ER α) : ER α := match v with | .bool c => cond c a b | _ => .no
noncomputable def andsC (f : EvE) : List IE → Loc → ER AV
  | [],_ => .no
  | [e],l => (f e l).bind fun v => boolC v (.ok (.bool true)) (.ok (.bool false))
  | e :: r,l => (f e l).bind fun v => boolC v (andsC f r l) (.ok (.bool false))
noncomputable def orsC (f : EvE) : List IE → Loc → ER AV
  | [],_ => .no
  | [e],l => (f e l).bind fun v => boolC v (.ok (.bool true)) (.ok (.bool false))
  | e :: r,l => (f e l).bind fun v => boolC v (.ok (.bool true)) (orsC f r l)
noncomputable def okA {α β : Type} (r : ER α) (k : α → Option β) : Option β := match r with | .ok a => k a | .ex _ => none | .no => none
noncomputable def boA {β : Type} (v : AV) (a b : Option β) : Option β := match v with | .bool c => cond c a b | _ => none
theorem okA_eq {α β : Type} {r : ER α} {k : α → Option β} {v : β} (h : okA r k = some v) : ∃ a,r = .ok a ∧ k a = some v := by
  cases r with
  | ok a => exact ⟨a,rfl,h⟩
  | ex _ => exact noneX h
  | no => exact noneX h
theorem boA_eq {β : Type} {u : AV} {a b : Option β} {v : β} (h : boA u a b = some v) : (u = .bool true ∧ a = some v) ∨ (u = .bool false ∧ b = some v) := by
  cases u <;> first | exact noneX h | skip
  rename_i c
  cases c with
  | true => exact .inl ⟨rfl,h⟩
  | false => exact .inr ⟨rfl,h⟩
noncomputable def compsC (f : EvE) (elt : IE) (cond : Option IE) (fr : Loc) : List AV → List AV → Option (List AV)
  | [],acc => some acc
  | v :: vs,acc => (match cond with
    | none => okA (f elt (some v :: fr)) fun y => compsC f elt cond fr vs (acc ++ [y])
    | some t => okA (f t (some v :: fr)) fun c => boA c (okA (f elt (some v :: fr)) fun y => compsC f elt cond fr vs (acc ++ [y])) (compsC f elt cond fr vs acc))
noncomputable def evStepE (C : EvF) (fq f : EvE) : EvE := fun e l => match e with
  | .c v => .ok v
  | .loc k => (match l[k]? with | some (some v) => .ok v | _ => .no)
  | .g i => (match gtab[i]? with | some (_,v) => .ok v | none => .no)
  | .bin op a b => (f a l).bind fun x => (f b l).bind fun y => .opt (binC op x y)
  | .cmp a op b => (f a l).bind fun x => (f b l).bind fun y => .opt ((cmpC op x y).map .bool)
  | .chain a o1 b o2 c => (f a l).bind fun x => (f b l).bind fun y => (match cmpC o1 x y with
    | some true => (f c l).bind fun z => .opt ((cmpC o2 y z).map .bool)
    | some false => .ok (.bool false)
    | none => .no)
  | .not a => (f a l).bind fun v => boolC v (.ok (.bool false)) (.ok (.bool true))
  | .and es => andsC f es l
  | .or es => orsC f es l
  | .ife t a b => (f t l).bind fun v => boolC v (f a l) (f b l)
  | .call g es => (evsC f es l).bind fun vs => C g vs
  | .bcall b es => (evsC f es l).bind fun vs => .opt (bfC b vs)
  | .meth g o es => (f o l).bind fun v => (match v with | .inst C' fs => if C' = mcls g then (evsC f es l).bind fun vs => C g (.inst C' fs :: vs) else .no | _ => .no)
  | .smeth s o es => (f o l).bind fun v => if smOkC s v then (evsC f es l).bind fun vs => .opt (smC s v vs) else .no
  | .attr o C k => (f o l).bind fun v => (match v with | .inst C' fs => if C' = C then (match fs[k]? with | some (.val _) => .no | some y => .ok y | none => .no) else .no | _ => .no)
  | .idx a b => (f a l).bind fun x => (f b l).bind fun y => .opt (idxC x y)
  | .slice a lo hi => (f a l).bind fun x => (evoC f lo l).bind fun y => (evoC f hi l).bind fun z => .opt (sliceC x y z)
  | .tup es => (evsC f es l).bind fun vs => if vs.length ≤ 100000 then .ok (.tup vs) else .no
  | .lst false es => (evsC f es l).bind fun vs => if vs.length ≤ 100000 then .ok (.lst vs) else .no
  | .comp false elt _ fr it cond => (f it l).bind fun v => (match itemsOf v with
    | some vs => if vs.length ≤ 100000 then .opt ((compsC fq elt cond (fr.map fun k => (l[k]?).getD none) vs []).map .lst) else .no
    | none => .no)
  | .lam j fr => .opt ((alls (fr.map fun k => (l[k]?).getD none)).map (.fn j))
  | .callv k => (match l[k]? with | some (some (.fn j caps)) => C (1000 + j) caps | _ => .no)
  | _ => .no
noncomputable def SimE (fe : EvE) (f : EF) : Prop := ∀ e l H Q X,(fe e l).holds H Q X → f e l H Q X
noncomputable def SimC (C : EvF) (T : Nat → Option Con) : Prop := ∀ g args H Q X,(C g args).holds H Q X → match T g with | some C' => C' args H Q X | none => False
section
variable {α β : Type} {fe fqe : EvE} {f fq : EF} {C : EvF} {T : Nat → Option Con} {e : IE} {l : Loc} {H : MH} {X : Nat → MH → Prop}
theorem bindE (h : SimE fe f) {k : AV → ER β} {Q : β → MH → Prop} (hk : ((fe e l).bind k).holds H Q X) {Q' : AV → MH → Prop} (hq : ∀ v,(k v).holds H Q X → Q' v H) : f e l H Q' X := by
  refine h e l H Q' X ?_
  cases hr : fe e l with
  | ok a => rw [hr] at hk; exact hq a hk
  | ex c => rw [hr] at hk; exact hk
  | no => rw [hr] at hk; exact hk
theorem opt_holds {o : Option α} {Q : α → MH → Prop} (h : (ER.opt o).holds H Q X) : ∃ a,o = some a ∧ Q a H := by
  cases o with
  | none => exact h.elim
  | some a => exact ⟨a,rfl,h⟩
theorem evs_ok (h : SimE fe f) : ∀ {es : List IE} {k : List AV → ER β} {Q : β → MH → Prop} {Q' : List AV → MH → Prop},((evsC fe es l).bind k).holds H Q X → (∀ vs,(k vs).holds H Q X → Q' vs H) → evs f es l H Q' X
  | [],k,Q,Q',hk,hq => hq [] hk
  | e :: r,k,Q,Q',hk,hq => by
    have hk : (((fe e l).bind fun v => (evsC fe r l).bind fun vs => .ok (v :: vs)).bind k).holds H Q X := hk
    refine bindE h (k := fun v => ((evsC fe r l).bind fun vs => ER.ok (v :: vs)).bind k) (Q := Q) ?_ fun v hv => ?_
    · cases hr : fe e l <;> (rw [hr] at hk; exact hk)
    · refine evs_ok h (k := fun vs => k (v :: vs)) (Q := Q) ?_ fun vs hvs => hq _ hvs
      cases hr : evsC fe r l <;> (rw [hr] at hv; exact hv)
theorem evo_ok (h : SimE fe f) : ∀ {e : Option IE} {k : Option AV → ER β} {Q : β → MH → Prop} {Q' : Option AV → MH → Prop},((evoC fe e l).bind k).holds H Q X → (∀ vs,(k vs).holds H Q X → Q' vs H) → evo f e l H Q' X
  | none,k,Q,Q',hk,hq => hq none hk
  | some e,k,Q,Q',hk,hq => by
    have hk : (((fe e l).bind fun v => .ok (some v)).bind k).holds H Q X := hk
    refine bindE h (k := fun v => k (some v)) (Q := Q) ?_ fun v hv => hq _ hv
    cases hr : fe e l <;> (rw [hr] at hk; exact hk)
theorem boolC_holds {v : AV} {a b : ER α} {Q : α → MH → Prop} (h : (boolC v a b).holds H Q X) : (v = .bool true ∧ a.holds H Q X) ∨ (v = .bool false ∧ b.holds H Q X) := by
  cases v <;> first | exact h.elim | skip
  rename_i c
  cases c with
  | true => exact .inl ⟨rfl,h⟩
  | false => exact .inr ⟨rfl,h⟩
theorem brB_t {p q : Prop} (h : p) : brB true p q := ⟨fun _ => h,fun h => falseX (Eq.symm h)⟩
theorem brB_f {p q : Prop} (h : q) : brB false p q := ⟨(fun h => falseX h),fun _ => h⟩
theorem ands_ok (h : SimE fe f) : ∀ {es : List IE} {Q : AV → MH → Prop},(andsC fe es l).holds H Q X → ands f es l H Q X
  | [],Q,hk => hk
  | [e],Q,hk => bindE h hk fun v hv => by
    rcases boolC_holds hv with ⟨rfl,q⟩ | ⟨rfl,q⟩ <;> exact q
  | e :: e2 :: r,Q,hk => bindE h hk fun v hv => by
    rcases boolC_holds hv with ⟨rfl,q⟩ | ⟨rfl,q⟩
    · exact brB_t (ands_ok h q)
    · exact brB_f q
theorem ors_ok (h : SimE fe f) : ∀ {es : List IE} {Q : AV → MH → Prop},(orsC fe es l).holds H Q X → ors f es l H Q X
  | [],Q,hk => hk
  | [e],Q,hk => bindE h hk fun v hv => by
    rcases boolC_holds hv with ⟨rfl,q⟩ | ⟨rfl,q⟩ <;> exact q
  | e :: e2 :: r,Q,hk => bindE h hk fun v hv => by
    rcases boolC_holds hv with ⟨rfl,q⟩ | ⟨rfl,q⟩
    · exact brB_t q
    · exact brB_f (ors_ok h q)
theorem comps_ok (h : SimE fqe fq) {elt : IE} {cond : Option IE} {fr : Loc} {Q : List AV → MH → Prop} : ∀ {vs acc ys : List AV},compsC fqe elt cond fr vs acc = some ys → Q ys H → comps fq elt cond fr vs acc H Q
  | [],acc,ys,e,q => by cases Option.some.inj e; exact q
  | v :: vs,acc,ys,e,q => by
    cases cond with
    | none =>
      show fq elt (some v :: fr) H (fun y H1 => comps fq elt none fr vs (acc ++ [y]) H1 Q) (fun _ _ => False)
      refine h _ _ _ _ _ ?_
      obtain ⟨y,hy,e⟩ := okA_eq e
      rw [hy]; exact comps_ok h e q
    | some t =>
      show fq t (some v :: fr) H (fun b H1 => isB b fun b => brB b (fq elt (some v :: fr) H1 (fun y H2 => comps fq elt (some t) fr vs (acc ++ [y]) H2 Q) (fun _ _ => False)) (comps fq elt (some t) fr vs acc H1 Q)) (fun _ _ => False)
      refine h _ _ _ _ _ ?_
      obtain ⟨c,hc,e⟩ := okA_eq e
      rw [hc]
      rcases boA_eq e with ⟨rfl,e⟩ | ⟨rfl,e⟩
      · refine brB_t (h _ _ _ _ _ ?_)
        obtain ⟨y,hy,e⟩ := okA_eq e
        rw [hy]; exact comps_ok h e q
      · exact brB_f (comps_ok h e q)
end
theorem if_some {α : Type} {c : Prop} [Decidable c] {a v : α} (h : (if c then some a else none) = some v) : c ∧ a = v := by
  by_cases hc : c
  · rw [if_pos hc] at h; exact ⟨hc,Option.some.inj h⟩
  · rw [if_neg hc] at h; exact noneX h
theorem binCI_ok {op : Operator} {i j : Int} {v : AV} {Q : AV → Prop} (h : binCI op i j = some v) (q : Q v) : binV op (.int i) (.int j) Q := by
  cases op <;> first | exact noneX h | skip
  · cases Option.some.inj h; exact ⟨trivial,q⟩
  · cases Option.some.inj h; exact ⟨trivial,q⟩
  · have h : (if _ then none else some (AV.int (i * j))) = some v := h
    split at h
    · exact noneX h
    · rename_i hc; cases Option.some.inj h; exact ⟨hc,q⟩
  · have h : (if j = 0 then none else some (AV.int (i.fmod j))) = some v := h
    by_cases hc : j = 0
    · rw [if_pos hc] at h; exact noneX h
    · rw [if_neg hc] at h; cases Option.some.inj h; exact ⟨hc,q⟩
  · cases Option.some.inj h; exact ⟨trivial,q⟩
theorem binCS_ok {op : Operator} {x y : Str} {v : AV} {Q : AV → Prop} (h : binCS op x y = some v) (q : Q v) : binV op (.str x) (.str y) Q := by
  cases op <;> first | exact noneX h | skip
  obtain ⟨hc,rfl⟩ := if_some h
  exact ⟨Nat.le_trans hc (by decide),q⟩
theorem binCL_ok {op : Operator} {x y : List AV} {v : AV} {Q : AV → Prop} (h : binCL op x y = some v) (q : Q v) : binV op (.lst x) (.lst y) Q := by
  cases op <;> first | exact noneX h | skip
  obtain ⟨hc,rfl⟩ := if_some h
  exact ⟨hc,q⟩
theorem binC_ok {op : Operator} {x y v : AV} {H : MH} {Q : AV → Prop} (h : binC op x y = some v) (q : Q v) : binV op (view H x) (view H y) Q := by
  cases x <;> first | exact noneX h | (cases y <;> first | exact noneX h | exact binCI_ok h q | exact binCS_ok h q | exact binCL_ok h q)
theorem IsPy.cons {v : AV} {d : PyData} {r : List AV} {l : List PyData} (h : IsPy [v] [d]) (hr : IsPy r l) : IsPy (v :: r) (d :: l) := by
  cases h with
  | none => exact .none hr
  | bool b => exact .bool b hr
  | int n => exact .int n hr
  | str x => exact .str x hr
  | tup h => exact .tup h hr
  | lst h => exact .lst h hr
mutual
theorem toPy_ok : ∀ {v : AV} {d : PyData},toPy v = some d → IsPy [v] [d]
  | .none,d,h => by cases Option.some.inj h; exact .none .nil
  | .bool b,d,h => by cases Option.some.inj h; exact .bool b .nil
  | .int n,d,h => by cases Option.some.inj h; exact .int n .nil
  | .str x,d,h => by cases Option.some.inj h; exact .str x .nil
  | .tup xs,d,h => by
    obtain ⟨l,hl,rfl⟩ := Option.map_eq_some_iff.mp h
    exact .tup (toPys_ok hl) .nil
  | .lst xs,d,h => by
    obtain ⟨l,hl,rfl⟩ := Option.map_eq_some_iff.mp h
    exact .lst (toPys_ok hl) .nil
  | .bytes _,d,h => noneX h
  | .inst _ _,d,h => noneX h
  | .mu _,d,h => noneX h
  | .val _,d,h => noneX h
  | .rng _ _ _,d,h => noneX h
  | .ext _,d,h => noneX h
  | .fn _ _,d,h => noneX h
theorem toPys_ok : ∀ {l : List AV} {ds : List PyData},toPys l = some ds → IsPy l ds
  | [],ds,h => by cases Option.some.inj h; exact .nil
  | v :: r,ds,h => by
    obtain ⟨d,hd,h⟩ := Option.bind_eq_some_iff.mp h
    obtain ⟨l,hl,rfl⟩ := Option.map_eq_some_iff.mp h
    exact (toPy_ok hd).cons (toPys_ok hl)
end
theorem opt_bind {α β : Type} {o : Option α} {f : α → Option β} {v : β} {k : α → Prop} (h : o.bind f = some v) (q : ∀ a,f a = some v → k a) : optP o k := by
  obtain ⟨a,rfl,h⟩ := Option.bind_eq_some_iff.mp h
  exact q a h
theorem inOC_ok {op : CmpOp} {x : Str} {l : List Str} {c : Bool} {k : Bool → Prop} (h : inOC op x l = some c) (q : k c) : inO op x l k := by
  cases op <;> first | exact noneX h | (cases Option.some.inj h; exact q)
theorem isOC_ok {op : CmpOp} {b c : Bool} {k : Bool → Prop} (h : isOC op b = some c) (q : k c) : isO op b k := by
  cases op <;> first | exact noneX h | (cases Option.some.inj h; exact q)
theorem eqOC_ok {op : CmpOp} {b c : Bool} {k : Bool → Prop} (h : eqOC op b = some c) (q : k c) : eqO op b k := by
  cases op <;> first | exact noneX h | (cases Option.some.inj h; exact q)
theorem opt_of {α : Type} {o : Option α} {a : α} {k : α → Prop} (h : o = some a) (q : k a) : optP o k := h ▸ q
theorem if_then {α : Type} {c : Bool} {o : Option α} {v : α} (h : (if c then o else none) = some v) : c = true ∧ o = some v := by
  cases c with
  | true => exact ⟨rfl,h⟩
  | false => exact noneX h
theorem cmpC_ok {op : CmpOp} {x y : AV} {c : Bool} {H : MH} {k : Bool → Prop} (h : cmpC op x y = some c) (q : k c) : cmpV op (view H x) (view H y) k := by
  cases y <;> first | exact noneX h | skip
  · obtain ⟨b,hb,h⟩ := Option.bind_eq_some_iff.mp h
    have e : isNone (view H x) = some b := by cases x <;> first | exact noneX hb | exact hb
    exact opt_of e (isOC_ok h q)
  all_goals (cases x <;> first | exact noneX h | exact opt_of h q | skip)
  · exact opt_bind h fun l h => inOC_ok h q
  · obtain ⟨d,hd,h⟩ := Option.bind_eq_some_iff.mp h
    obtain ⟨e,he,h⟩ := Option.bind_eq_some_iff.mp h
    obtain ⟨hs,h⟩ := if_then h
    exact ⟨d,e,toPys_ok hd,toPys_ok he,(and2 hs).1,(and2 hs).2,eqOC_ok h q⟩
  · exact opt_bind h fun l h => inOC_ok h q
  · obtain ⟨d,hd,h⟩ := Option.bind_eq_some_iff.mp h
    obtain ⟨e,he,h⟩ := Option.bind_eq_some_iff.mp h
    obtain ⟨hs,h⟩ := if_then h
    exact ⟨d,e,toPys_ok hd,toPys_ok he,(and2 hs).1,(and2 hs).2,eqOC_ok h q⟩
theorem idxC_ok {x y v : AV} {H : MH} {Q : AV → Prop} (h : idxC x y = some v) (q : Q v) : idxV (view H x) y Q := by
  cases y <;> first | exact noneX h | (cases x <;> first | exact noneX h | (obtain ⟨hc,rfl⟩ := if_some h; exact ⟨hc,q⟩))
theorem cutC_ok {x : Str} {a b : Option Int} {v : AV} {Q : AV → Prop} (h : cutC x a b = some v) (q : Q v) : cutV x a b Q := by
  cases a <;> cases b <;> first | exact noneX h | (obtain ⟨hc,rfl⟩ := if_some h; exact ⟨hc,q⟩)
theorem sliceC_ok {x : AV} {lo hi : Option AV} {v : AV} {H : MH} {Q : AV → Prop} (h : sliceC x lo hi = some v) (q : Q v) : sliceV (view H x) lo hi Q := by
  cases x <;> first | exact noneX h | exact opt_bind h fun a h => opt_bind h fun b h => cutC_ok h q
theorem bfCI_ok {b : BF} {n : Int} {v : AV} {Q : AV → Prop} (h : bfCI b n = some v) (q : Q v) : bfI b n Q := by
  cases b <;> first | exact noneX h | (cases Option.some.inj h; exact q) | (obtain ⟨hc,rfl⟩ := if_some h; exact ⟨hc,q⟩)
theorem bfCB_ok {b : BF} {n : Bool} {v : AV} {Q : AV → Prop} (h : bfCB b n = some v) (q : Q v) : bfB b n Q := by
  cases b <;> first | exact noneX h | (cases Option.some.inj h; exact q)
theorem bfCS_ok {b : BF} {x : Str} {v : AV} {Q : AV → Prop} (h : bfCS b x = some v) (q : Q v) : bfS b x Q := by
  cases b <;> first | exact noneX h | skip
  · obtain ⟨n,hn,rfl⟩ := Option.map_eq_some_iff.mp h
    have h1 := List.find?_some hn
    exact ⟨n,List.mem_range.mp (List.mem_of_find?_eq_some hn),of_decide_eq_true h1,q⟩
  · obtain ⟨hc,rfl⟩ := if_some h; exact ⟨hc,q⟩
theorem bfCL_ok {b : BF} {x : List AV} {v : AV} {Q : AV → Prop} (h : bfCL b x = some v) (q : Q v) : bfL b x Q := by
  cases b <;> first | exact noneX h | (obtain ⟨hc,rfl⟩ := if_some h; exact ⟨hc,q⟩)
theorem bfC_ok {b : BF} {vs : List AV} {v : AV} {H : MH} {Q : AV → Prop} (h : bfC b vs = some v) (q : Q v) : bfV b (vs.map (view H)) Q := by
  rcases vs with _ | ⟨a,_ | ⟨c,_ | ⟨d,r⟩⟩⟩
  · exact noneX h
  · cases a <;> first | exact noneX h | exact bfCI_ok h q | exact bfCB_ok h q | exact bfCS_ok h q | exact bfCL_ok h q
  · cases b <;> first | exact noneX h | skip
    obtain ⟨i,hi,h⟩ := Option.bind_eq_some_iff.mp h
    obtain ⟨j,hj,rfl⟩ := Option.map_eq_some_iff.mp h
    rw [avI_eq hi,avI_eq hj]
    exact q
  · exact noneX h
theorem smOkC_ok {s : SM} {v : AV} (h : smOkC s v = true) : smOk s v := by
  cases v <;> first | exact falseX h | (cases s <;> first | exact falseX h | exact trivial)
theorem smC0_ok {s : SM} {x : Str} {v : AV} {Q : AV → Prop} (h : smC0 s x = some v) (q : Q v) : smS0 s x Q := by
  cases s <;> first | exact noneX h | (obtain ⟨hc,rfl⟩ := if_some h; exact ⟨hc,q⟩)
theorem smC1_ok {s : SM} {x : List AV} {a v : AV} {Q : AV → Prop} (h : smC1 s x a = some v) (q : Q v) : smL s x a Q := by
  cases s <;> first | exact noneX h | skip
  exact opt_bind h fun y h => opt_bind h fun ys h => by obtain ⟨hc,rfl⟩ := if_some h; exact ⟨hc,q⟩
theorem smC_ok {s : SM} {o : AV} {vs : List AV} {v : AV} {H : MH} {Q : AV → MH → Prop} (h : smC s o vs = some v) (q : Q v H) : smV s o vs H Q := by
  rcases vs with _ | ⟨a,_ | ⟨c,r⟩⟩
  · cases o <;> first | exact noneX h | exact smC0_ok (Q := fun v => Q v H) h q
  · cases o <;> first | exact noneX h | exact smC1_ok (Q := fun v => Q v H) h q
  · exact noneX h
theorem map_opt {α β : Type} {o : Option α} {g : α → β} {H : MH} {X : Nat → MH → Prop} {Q : β → MH → Prop} (h : (ER.opt (o.map g)).holds H Q X) : ∃ a,o = some a ∧ Q (g a) H := by
  cases o with
  | none => exact h.elim
  | some a => exact ⟨a,rfl,h⟩
theorem simE_step {C : EvF} {T : Nat → Option Con} {fqe fe : EvE} {fq f : EF} (hC : SimC C T) (hq : SimE fqe fq) (h : SimE fe f) : SimE (evStepE C fqe fe) (stepE T fq f) := by
  intro e l H Q X hk
  cases e with
  | c v => exact hk
  | loc k =>
    have hk : (match l[k]? with | some (some v) => ER.ok v | _ => ER.no).holds H Q X := hk
    show (match l[k]? with | some (some v) => Q v H | _ => False)
    generalize l[k]? = o at hk ⊢
    rcases o with _ | _ | v
    · exact hk.elim
    · exact hk.elim
    · exact hk
  | g i =>
    have hk : (match gtab[i]? with | some (_,v) => ER.ok v | none => ER.no).holds H Q X := hk
    show (match gtab[i]? with | some (_,v) => Q v H | none => False)
    generalize gtab[i]? = o at hk ⊢
    rcases o with _ | ⟨s,v⟩
    · exact hk.elim
    · exact hk
  | bin op a b =>
    refine bindE h hk fun x hx => bindE h hx fun y hy => ?_
    obtain ⟨v,e,q⟩ := opt_holds hy
    exact binC_ok e q
  | cmp a op b =>
    refine bindE h hk fun x hx => bindE h hx fun y hy => ?_
    obtain ⟨v,e,q⟩ := map_opt hy
    exact cmpC_ok e q
  | chain a o1 b o2 c =>
    refine bindE h hk fun x hx => bindE h hx fun y hy => ?_
    rcases h1 : cmpC o1 x y with _ | k
    · rw [h1] at hy; exact hy.elim
    · rw [h1] at hy
      cases k with
      | false => exact cmpC_ok h1 (brB_f hy)
      | true =>
        refine cmpC_ok h1 (brB_t ?_)
        refine bindE h hy fun z hz => ?_
        obtain ⟨v,e,q⟩ := map_opt hz
        exact cmpC_ok e q
  | not a =>
    refine bindE h hk fun v hv => ?_
    rcases boolC_holds hv with ⟨rfl,q⟩ | ⟨rfl,q⟩ <;> exact q
  | and es => exact ands_ok h hk
  | or es => exact ors_ok h hk
  | ife t a b =>
    refine bindE h hk fun v hv => ?_
    rcases boolC_holds hv with ⟨rfl,q⟩ | ⟨rfl,q⟩
    · exact brB_t (h _ _ _ _ _ q)
    · exact brB_f (h _ _ _ _ _ q)
  | call g es => exact evs_ok h hk fun vs hvs => hC g vs H Q X hvs
  | bcall b es =>
    refine evs_ok h hk fun vs hvs => ?_
    obtain ⟨v,e,q⟩ := opt_holds hvs
    exact bfC_ok e q
  | meth g o es =>
    refine bindE h hk fun v hv => ?_
    cases v <;> first | exact hv.elim | skip
    rename_i C' fs
    have hv : ER.holds (if C' = mcls g then _ else ER.no) H Q X := hv
    by_cases hc : C' = mcls g
    · rw [if_pos hc] at hv
      exact ⟨hc,evs_ok h hv fun vs hvs => hC g _ H Q X hvs⟩
    · rw [if_neg hc] at hv; exact hv.elim
  | smeth s o es =>
    refine bindE h hk fun v hv => ?_
    split at hv
    · rename_i hc
      refine ⟨smOkC_ok hc,evs_ok h hv fun vs hvs => ?_⟩
      obtain ⟨u,e,q⟩ := opt_holds hvs
      exact smC_ok e q
    · exact hv.elim
  | attr o C k =>
    refine bindE h hk fun v hv => ?_
    cases v <;> first | exact hv.elim | skip
    rename_i C' fs
    have hv : ER.holds (if C' = C then _ else ER.no) H Q X := hv
    by_cases hc : C' = C
    · rw [if_pos hc] at hv
      refine ⟨hc,?_⟩
      generalize fs[k]? = o at hv ⊢
      rcases o with _ | y
      · exact hv.elim
      · cases y <;> first | exact hv | exact hv.elim
    · rw [if_neg hc] at hv; exact hv.elim
  | idx a b =>
    refine bindE h hk fun x hx => bindE h hx fun y hy => ?_
    obtain ⟨v,e,q⟩ := opt_holds hy
    exact idxC_ok e q
  | slice a lo hi =>
    refine bindE h hk fun x hx => evo_ok h hx fun y hy => evo_ok h hy fun z hz => ?_
    obtain ⟨v,e,q⟩ := opt_holds hz
    exact sliceC_ok e q
  | tup es =>
    refine evs_ok h hk fun vs hvs => ?_
    split at hvs
    · rename_i hc; exact ⟨hc,hvs⟩
    · exact hvs.elim
  | lst mu es =>
    cases mu with
    | true => exact hk.elim
    | false =>
      refine evs_ok h hk fun vs hvs => ?_
      split at hvs
      · rename_i hc; exact ⟨hc,hvs⟩
      · exact hvs.elim
  | comp mu elt x fr it cond =>
    cases mu with
    | true => exact hk.elim
    | false =>
      refine bindE h hk fun v hv => ?_
      rcases hvs : itemsOf v with _ | vs
      · rw [hvs] at hv; exact hv.elim
      · rw [hvs] at hv
        have hv : ER.holds (if vs.length ≤ 100000 then _ else ER.no) H Q X := hv
        by_cases hc : vs.length ≤ 100000
        · rw [if_pos hc] at hv
          obtain ⟨ys,e,q⟩ := map_opt hv
          exact ⟨hc,comps_ok hq e q⟩
        · rw [if_neg hc] at hv; exact hv.elim
  | lam j fr =>
    obtain ⟨vs,e,q⟩ := map_opt hk
    show optP (alls _) _
    rw [e]
    exact q
  | callv k =>
    have hk : (match l[k]? with | some (some (.fn j caps)) => C (1000 + j) caps | _ => ER.no).holds H Q X := hk
    show (match l[k]? with | some (some (.fn j caps)) => (match T (1000 + j) with | some C' => C' caps H Q X | none => False) | _ => False)
    generalize l[k]? = o at hk ⊢
    rcases o with _ | _ | v
    · exact hk.elim
    · exact hk.elim
    · cases v <;> first | exact hk.elim | exact hC _ _ H Q X hk
noncomputable def forC (g : EvS) (ks : Ks) (one : Bool) (b : List IS) : List AV → Loc → ER (FL × Loc)
  | [],l => .ok (.next,l)
  | v :: vs,l => (match bindT ks one v l with
    | some l1 => (g b l1).bind fun r => (match r with
      | (.next,l2) => forC g ks one b vs l2
      | (.cont,l2) => forC g ks one b vs l2
      | (.brk,l2) => .ok (.next,l2)
      | (.ret v,l2) => .ok (.ret v,l2))
    | none => .no)
noncomputable def nextC (o : Option Loc) : ER (FL × Loc) := match o with | some l => .ok (.next,l) | none => .no
noncomputable def tryC (r : ER AV) (C : Nat) (v : AV) (l : Loc) : ER (FL × Loc) := match r with | .ok _ => .ok (.next,l) | .ex c => if c = C then .ok (.ret v,l) else .no | .no => .no
noncomputable def evStepI (ql : Bool) (gq : EvS) (f : EvE) (g : EvS) : IS → Loc → ER (FL × Loc) := fun st l => match st with
  | .asg k c e => (f e l).bind fun v => nextC (setK k c v l)
  | .asgT ks sw e => (f e l).bind fun v => (match sw,v with
    | false,.tup vs => nextC (setAll ks vs l)
    | true,.tup vs => nextC (setAll ks.reverse vs.reverse l)
    | _,_ => .no)
  | .iff t a b => (f t l).bind fun v => boolC v (g a l) (g b l)
  | .forS ks one it b => (f it l).bind fun v => (match itemsOf v with | some vs => forC gq ks one b vs l | none => .no)
  | .ret e => (f e l).bind fun v => .ok (.ret v,l)
  | .ex e => (f e l).bind fun _ => .ok (.next,l)
  | .cont => .ok (.cont,l)
  | .raise C e => (f e l).bind fun v => (match v with | .str x => if x.length ≤ 1000 then .ex C else .no | _ => .no)
  | .tryS e C v => if ql then .no else tryC (f e l) C v l
  | _ => .no
noncomputable def evStepS (ql : Bool) (gq : EvS) (f : EvE) (g : EvS) : EvS := fun b l => match b with
  | [] => .ok (.next,l)
  | st :: r => (evStepI ql gq f g st l).bind fun q => (match q with | (.next,l1) => g r l1 | q => .ok q)
noncomputable def evq (C : EvF) : Nat → EvE × EvS := fun n => Nat.rec (fun _ _ => .no,fun _ _ => .no) (fun _ r => (evStepE C r.1 r.1,evStepS true r.2 r.1 r.2)) n
noncomputable def evl (Cq C : EvF) : Nat → EvE × EvS := fun n => Nat.rec (fun _ _ => .no,fun _ _ => .no) (fun n r => (evStepE C (evq Cq n).1 r.1,evStepS false (evq Cq n).2 r.1 r.2)) n
noncomputable def SimS (ge : EvS) (g : SF) : Prop := ∀ b l H Q X,(ge b l).holds H (fun q H' => Q q.1 q.2 H') X → g b l H Q X
section
variable {fe fqe : EvE} {f fq : EF} {ge gqe : EvS} {g gq : SF} {e : IE} {l : Loc} {H : MH} {X : Nat → MH → Prop}
theorem nextC_holds {o : Option Loc} {Q : FL → Loc → MH → Prop} (h : (nextC o).holds H (fun q H' => Q q.1 q.2 H') X) : optP o fun l1 => Q .next l1 H := by
  cases o with
  | none => exact h.elim
  | some a => exact h
theorem for_ok (h : SimS ge g) {ks : Ks} {one : Bool} {b : List IS} {Q : FL → Loc → MH → Prop} : ∀ {vs : List AV} {l : Loc},(forC ge ks one b vs l).holds H (fun q H' => Q q.1 q.2 H') X → forI g ks one b X vs l H Q
  | [],l,hk => hk
  | v :: vs,l,hk => by
    show optP (bindT ks one v l) _
    have hk : (match bindT ks one v l with | some l1 => (ge b l1).bind fun r => (match r with | (.next,l2) => forC ge ks one b vs l2 | (.cont,l2) => forC ge ks one b vs l2 | (.brk,l2) => .ok (.next,l2) | (.ret v,l2) => .ok (.ret v,l2)) | none => .no).holds H (fun q H' => Q q.1 q.2 H') X := hk
    rcases h1 : bindT ks one v l with _ | l1
    · rw [h1] at hk; exact hk.elim
    · rw [h1] at hk
      have hk : ER.holds (α := FL × Loc) ((ge b l1).bind _) H (fun q H' => Q q.1 q.2 H') X := hk
      refine h b l1 H _ X ?_
      rcases hr : ge b l1 with ⟨fl,l2⟩ | c | _
      · rw [hr] at hk
        cases fl with
        | next => exact for_ok h hk
        | cont => exact for_ok h hk
        | brk => exact hk
        | ret v => exact hk
      · rw [hr] at hk; exact hk
      · rw [hr] at hk; exact hk
theorem simI_step {ql : Bool} (h : SimE fe f) (hg : SimS ge g) (hgq : SimS gqe gq) {st : IS} {l : Loc} {Q' : FL → Loc → MH → Prop} (key : (evStepI ql gqe fe ge st l).holds H (fun q H' => Q' q.1 q.2 H') X) : stepI ql fq gq f g st l H Q' X := by
  cases st with
  | asg k c e => exact bindE h key fun v hv => nextC_holds hv
  | asgT ks sw e =>
    refine bindE h key fun v hv => ?_
    cases sw with
    | false =>
      cases v <;> first | exact nextC_holds hv | exact hv.elim
    | true =>
      cases v <;> first | exact nextC_holds hv | exact hv.elim
  | iff t a b =>
    refine bindE h key fun v hv => ?_
    rcases boolC_holds hv with ⟨rfl,q⟩ | ⟨rfl,q⟩
    · exact brB_t (hg _ _ _ _ _ q)
    · exact brB_f (hg _ _ _ _ _ q)
  | forS ks one it b =>
    refine bindE h key fun v hv => ?_
    show optP (itemsOf v) _
    rcases hvs : itemsOf v with _ | vs
    · rw [hvs] at hv; exact hv.elim
    · rw [hvs] at hv; exact for_ok hgq hv
  | ret e => exact bindE h key fun v hv => hv
  | ex e => exact bindE h key fun v hv => hv
  | cont => exact key
  | raise C e =>
    refine bindE h key fun v hv => ?_
    cases v <;> first | exact hv.elim | skip
    rename_i x
    have hv : ER.holds (α := FL × Loc) (if x.length ≤ 1000 then _ else ER.no) H (fun q H' => Q' q.1 q.2 H') X := hv
    by_cases hx : x.length ≤ 1000
    · rw [if_pos hx] at hv; exact ⟨_,rfl,hx,hv⟩
    · rw [if_neg hx] at hv; exact hv.elim
  | tryS e C v =>
    have key : (if ql then ER.no else tryC (fe e l) C v l).holds H (fun q H' => Q' q.1 q.2 H') X := key
    cases ql with
    | true => exact key.elim
    | false =>
      refine ⟨rfl,h e l H _ _ ?_⟩
      have key : (tryC (fe e l) C v l).holds H (fun q H' => Q' q.1 q.2 H') X := key
      rcases hc : fe e l with a | c | _
      · rw [hc] at key; exact key
      · rw [hc] at key
        have key : ER.holds (α := FL × Loc) (if c = C then _ else ER.no) H (fun q H' => Q' q.1 q.2 H') X := key
        by_cases he : c = C
        · rw [if_pos he] at key; exact ⟨he,key⟩
        · rw [if_neg he] at key; exact key.elim
      · rw [hc] at key; exact key.elim
  | asgI _ _ _ => exact key.elim
  | forE _ _ _ _ => exact key.elim
  | whileS _ _ => exact key.elim
theorem simS_step {ql : Bool} (h : SimE fe f) (hg : SimS ge g) (hgq : SimS gqe gq) : SimS (evStepS ql gqe fe ge) (stepS ql fq gq f g) := by
  intro b l H Q X hk
  cases b with
  | nil => exact hk
  | cons st r =>
    have hk : ((evStepI ql gqe fe ge st l).bind fun q => (match q with | (.next,l1) => ge r l1 | q => ER.ok q)).holds H (fun q H' => Q q.1 q.2 H') X := hk
    have on : ∀ {fl : FL} {l1 : Loc},(((ER.ok (fl,l1)) : ER (FL × Loc)).bind fun q => (match q with | (.next,l1) => ge r l1 | q => ER.ok q)).holds H (fun q H' => Q q.1 q.2 H') X → seqQ g r Q X fl l1 H := by
      intro fl l1 h1
      cases fl with
      | next => exact hg r l1 H Q X h1
      | cont => exact h1
      | brk => exact h1
      | ret v => exact h1
    have key : (evStepI ql gqe fe ge st l).holds H (fun q H' => seqQ g r Q X q.1 q.2 H') X := by
      cases hr : evStepI ql gqe fe ge st l with
      | ok q => rw [hr] at hk; exact on hk
      | ex c => rw [hr] at hk; exact hk
      | no => rw [hr] at hk; exact hk
    exact simI_step h hg hgq key
theorem evq_ok {C : EvF} {T : Nat → Option Con} (hC : SimC C T) : ∀ n,SimE (evq C n).1 (wpq T n).1 ∧ SimS (evq C n).2 (wpq T n).2
  | 0 => ⟨fun _ _ _ _ _ h => h.elim,fun _ _ _ _ _ h => h.elim⟩
  | n + 1 => by
    obtain ⟨h1,h2⟩ := evq_ok hC n
    exact ⟨simE_step hC h1 h1,simS_step h1 h2 h2⟩
theorem evl_ok {Cq C : EvF} {Tq T : Nat → Option Con} (hCq : SimC Cq Tq) (hC : SimC C T) : ∀ n,SimE (evl Cq C n).1 (wps Tq T n).1 ∧ SimS (evl Cq C n).2 (wps Tq T n).2
  | 0 => ⟨fun _ _ _ _ _ h => h.elim,fun _ _ _ _ _ h => h.elim⟩
  | n + 1 => by
    obtain ⟨h1,h2⟩ := evl_ok hCq hC n
    obtain ⟨k1,k2⟩ := evq_ok hCq n
    exact ⟨simE_step hC k1 h1,simS_step h1 h2 k2⟩
end
noncomputable def retC (r : ER (FL × Loc)) : ER AV := match r with
  | .ok (.ret v,_) => .ok v
  | .ok (.next,_) => .ok .none
  | .ok _ => .no
  | .ex c => .ex c
  | .no => .no
theorem retC_holds {r : ER (FL × Loc)} {H : MH} {Q : AV → MH → Prop} {X : Nat → MH → Prop} (h : (retC r).holds H Q X) : r.holds H (fun q H' => match q.1 with | .ret v => Q v H' | .next => Q .none H' | _ => False) X := by
  cases r with
  | ok q =>
    obtain ⟨fl,l⟩ := q
    cases fl <;> exact h
  | ex c => exact h
  | no => exact h
noncomputable def zeros : List AV := List.replicate 16 (.int 0)
noncomputable def regCon : Con := fun args H Q X => ∃ nm kd n z,args = [.str nm,.str kd,.int n,.int z] ∧ Q (.inst 196 args) H
noncomputable def stCon : Con := fun args H Q X => args = [.none] ∧ ∀ a b c,Q (.inst 587 [.none,.mu H.length,.mu (H.length + 1),.val a,.val b,.int 0,.int 0,.val c,.bool false]) (H ++ [zeros,zeros])
noncomputable def firOf (g : Nat) : Option (Lo × List IS) := (firs.find? fun q => q.1 == g).map (·.2)
noncomputable def regA (args : List AV) : ER AV := match args with
  | [a,b,c,d] => if ((avS a).isSome && (avS b).isSome && (avI c).isSome && (avI d).isSome) = true then .ok (.inst 196 [a,b,c,d]) else .no
  | _ => .no
theorem regA_is {args : List AV} {H : MH} {Q : AV → MH → Prop} {X : Nat → MH → Prop} (h : (regA args).holds H Q X) : ∃ nm kd n z,args = [.str nm,.str kd,.int n,.int z] ∧ Q (.inst 196 args) H := by
  rcases args with _ | ⟨a,_ | ⟨b,_ | ⟨c,_ | ⟨d,_ | ⟨e,r⟩⟩⟩⟩⟩ <;> first | exact False.elim h | skip
  have h : (if ((avS a).isSome && (avS b).isSome && (avI c).isSome && (avI d).isSome) = true then ER.ok (AV.inst 196 [a,b,c,d]) else ER.no).holds H Q X := h
  by_cases hc : ((avS a).isSome && (avS b).isSome && (avI c).isSome && (avI d).isSome) = true
  · rw [if_pos hc] at h
    have hc := and4 hc
    refine byC fun no9 => ?_
    obtain ⟨x1,e1⟩ := Option.isSome_iff_exists.mp hc.1
    obtain ⟨x2,e2⟩ := Option.isSome_iff_exists.mp hc.2.1
    obtain ⟨x3,e3⟩ := Option.isSome_iff_exists.mp hc.2.2.1
    obtain ⟨x4,e4⟩ := Option.isSome_iff_exists.mp hc.2.2.2
    refine no9 ?_
    clear no9
    exact ⟨x1,x2,x3,x4,by rw [avS_eq e1,avS_eq e2,avI_eq e3,avI_eq e4],h⟩
  · rw [if_neg hc] at h; exact h.elim
noncomputable def runS (r : EvF) : EvF := fun g args =>
  if g = 196 then regA args
  else if 1000 ≤ g then (match lams[g - 1000]? with | some (_,ie) => (evq r 12).1 ie (args.map some) | none => .no)
  else match firOf g with
    | some (lo,ib) => if args.length = lo.1.length then retC ((evq r 12).2 ib (args.map some ++ List.replicate (lo.2.1.length - lo.1.length) none)) else .no
    | none => .no
noncomputable def runF : Nat → EvF := fun n => Nat.rec (fun _ _ => .no) (fun _ r => runS r) n
noncomputable def evCon (n : Nat) (g : Nat) : Con := fun args H Q X => (runF n g args).holds H Q X
noncomputable def evT (n : Nat) : Nat → Option Con := fun g => some (evCon n g)
theorem simC_ev (n : Nat) : SimC (runF n) (evT n) := fun g args H Q X h => h
section
variable (prog : Program) (w : World) (K : Frag) (p : Program) (loose : List Str) (mean : ExcName → Option Value) (mg mb : Str → Option Value)
structure PK : Prop where
  ko : KOk K
  kx : XOk K
  reg : ∀ ql,Sound prog w K p loose mean mg mb ql 196 3 regCon
  st : ∀ ql,Sound prog w K p loose mean mg mb ql 587 6 stCon
  fn : ∀ q ∈ firs,DefOkE K q.2.1 q.1 30 q.2.2
end
section
variable {ql : Bool} {prog : Program} {w : World} {K : Frag} {p : Program} {loose : List Str} {mean : ExcName → Option Value} {mg mb : Str → Option Value} {D : Nat}
theorem SoundL.mono {f : Nat} {C C' : Con} {D' : Nat} (h : SoundL prog w K p loose mean mg mb ql f D C) (hd : D ≤ D') (hC : ∀ args H Q X,C' args H Q X → C args H Q X) : SoundL prog w K p loose mean mg mb ql f D' C' :=
  fun c args H Q X m Y wd s vs Qr Er O q S r h1 h2 hK hX => h c args H Q X m Y wd s vs Qr Er O (hC _ _ _ _ q) S r (by lia) (by lia) hK hX
theorem firOf_mem {g : Nat} {lo : Lo} {ib : List IS} (h : firOf g = some (lo,ib)) : (g,lo,ib) ∈ firs := by
  unfold firOf at h
  obtain ⟨q,h1,h2⟩ := Option.map_eq_some_iff.mp h
  have h3 := List.find?_some h1
  have h4 := List.mem_of_find?_eq_some h1
  obtain ⟨a,b⟩ := q
  cases h2
  cases beq_iff_eq.mp h3
  exact h4
theorem PK.sound (PKh : PK prog w K p loose mean mg mb) {g : SF} {lo : Lo} {f : Nat} {ib : List IS} {C : Con} (hm : (f,lo,ib) ∈ firs) (hg : SSound prog w K p loose mean mg mb ql D g)
    (h : ∀ args H Q X,C args H Q X → args.length = lo.1.length ∧ g ib (args.map some ++ List.replicate (lo.2.1.length - lo.1.length) none) H (fun fl _ H' => match fl with | .ret v => Q v H' | .next => Q .none H' | _ => False) X) :
    Sound prog w K p loose mean mg mb ql f (D + 1) C := by
  obtain ⟨params,scope,body,name,qual,dV,kV,doc,pm,cdv,ct,an,DO⟩ := PKh.fn _ hm
  exact Sound.mono (def_sound hg DO) (Nat.le_refl _) fun args H Q X hc => h args H Q X hc
theorem evT_ok (PKh : PK prog w K p loose mean mg mb) : ∀ n,TOk prog w K p loose mean mg mb true (n + 4) (evT n)
  | 0 => ⟨fun g C hg hC => by cases hC; exact fun c args H Q X m Y wd s vs Qr Er O q => q.elim,fun j C hC => by cases hC; exact fun c args H Q X m Y wd s vs Qr Er O q => q.elim⟩
  | n + 1 => by
    refine byC fun no9 => ?_
    obtain ⟨hE,_,_,hS⟩ := wpq_sound PKh.ko PKh.kx (of_decide_eq_true rfl) (evT_ok PKh n) 12
    obtain ⟨sE,sS⟩ := evq_ok (simC_ev n) 12
    refine no9 ?_
    clear no9
    refine ⟨fun g C hg hC => ?_,fun j C hC => ?_⟩
    · cases hC
      by_cases h196 : g = 196
      · subst h196
        refine Sound.mono (PKh.reg true) (of_decide_eq_true rfl) fun args H Q X hc => ?_
        obtain ⟨nm,kd,n,z,rfl,hc⟩ := regA_is hc
        exact ⟨nm,kd,n,z,rfl,hc⟩
      · have e : ∀ args,runF (n + 1) g args = match firOf g with
          | some (lo,ib) => if args.length = lo.1.length then retC ((evq (runF n) 12).2 ib (args.map some ++ List.replicate (lo.2.1.length - lo.1.length) none)) else .no
          | none => .no := fun args => by
          show runS (runF n) g args = _
          unfold runS
          rw [if_neg h196,if_neg (by lia)]
        cases hf : firOf g with
        | none =>
          refine fun c args H Q X m Y wd s vs Qr Er O q => ?_
          have q : (runF (n + 1) g args).holds H Q X := q
          rw [e,hf] at q
          exact q.elim
        | some z =>
          refine byC fun no9 => ?_
          obtain ⟨lo,ib⟩ := z
          refine no9 ?_
          clear no9
          refine PKh.sound (firOf_mem hf) hS fun args H Q X hc => ?_
          have hc : (runF (n + 1) g args).holds H Q X := hc
          rw [e,hf] at hc
          dsimp only at hc
          split at hc
          · rename_i hl
            exact ⟨hl,sS _ _ _ _ _ (retC_holds hc)⟩
          · exact hc.elim
    · cases hC
      refine SoundL.mono (lam_sound hE) (Nat.le_refl _) fun args H Q X hc => ?_
      have hc : (runS (runF n) (1000 + j) args).holds H Q X := hc
      unfold runS at hc
      rw [if_neg (by lia),if_pos (by lia),show 1000 + j - 1000 = j by lia] at hc
      unfold lamCon
      cases hl : lams[j]? with
      | none => rw [hl] at hc; exact hc
      | some z => rw [hl] at hc; exact sE _ _ _ _ _ hc
end
theorem mapC {α β : Type} {f : α → β} {a : α} {l : List α} : (a :: l).map f = f a :: l.map f := rfl
theorem mapN {α β : Type} {f : α → β} : ([] : List α).map f = [] := rfl
theorem gdZ {α : Type} {a d : α} {l : List α} : (a :: l).getD 0 d = a := rfl
theorem gdS {α : Type} {a d : α} {l : List α} {n : Nat} : (a :: l).getD (n + 1) d = l.getD n d := rfl
theorem notT : (!true) = false := rfl
theorem dropZ {α : Type} {l : List α} : l.drop 0 = l := rfl
theorem rv0 {α : Type} : ([] : List α).reverse = [] := rfl
theorem rv1 {α : Type} {a : α} : [a].reverse = [a] := rfl
theorem rv2 {α : Type} {a b : α} : [a,b].reverse = [b,a] := rfl
theorem rv3 {α : Type} {a b c : α} : [a,b,c].reverse = [c,b,a] := rfl
theorem stillN {P : Params} {I : Led} {xs : List Addr} {Vs : List Value} (h : Rs P I xs [] Vs) : Rs P I [] [] Vs := by rw [h.nil0]; exact .nil
theorem its_l {xs : List AV} : itemsOf (.lst xs) = some xs := rfl
theorem its_t {xs : List AV} : itemsOf (.tup xs) = some xs := rfl
theorem its_b {ns : List Int} : itemsOf (.bytes ns) = some (ns.map .int) := rfl
theorem Le.to (n : Int) {a b : Int} (h : a ≤ n) (d : decide (n ≤ b) = true) : a ≤ b := Int.le_trans h (of_decide_eq_true d)
theorem Le.too (n : Nat) {a b : Nat} (h : a ≤ n) (d : decide (n ≤ b) = true) : a ≤ b := Nat.le_trans h (of_decide_eq_true d)
theorem its_r {lo hi st : Int} : itemsOf (.rng lo hi st) = if 1 ≤ st ∧ st ≤ 16 ∧ -1000000 ≤ lo ∧ lo ≤ 1000000 ∧ -1000000 ≤ hi ∧ hi ≤ 1000000 then some ((List.range (Builtin.Range.rangeSize lo hi st).toNat).map fun (i : Nat) => AV.int (lo + (i : Int) * st)) else none := rfl
theorem isNone_n : isNone .none = some true := rfl
theorem wq1 {T : Nat → Option Con} {n : Nat} {e : IE} {l : Loc} {H : MH} {Q : AV → MH → Prop} {X : Nat → MH → Prop} : (wpq T (n + 1)).1 e l H Q X = stepE T (wpq T n).1 (wpq T n).1 e l H Q X := rfl
theorem wq2 {T : Nat → Option Con} {n : Nat} {b : List IS} {l : Loc} {H : MH} {Q : FL → Loc → MH → Prop} {X : Nat → MH → Prop} : (wpq T (n + 1)).2 b l H Q X = stepS true (wpq T n).1 (wpq T n).2 (wpq T n).1 (wpq T n).2 b l H Q X := rfl
theorem wl1 {Tq T : Nat → Option Con} {n : Nat} {e : IE} {l : Loc} {H : MH} {Q : AV → MH → Prop} {X : Nat → MH → Prop} : (wps Tq T (n + 1)).1 e l H Q X = stepE T (wpq Tq n).1 (wps Tq T n).1 e l H Q X := rfl
theorem wl2 {Tq T : Nat → Option Con} {n : Nat} {b : List IS} {l : Loc} {H : MH} {Q : FL → Loc → MH → Prop} {X : Nat → MH → Prop} : (wps Tq T (n + 1)).2 b l H Q X = stepS false (wpq Tq n).1 (wpq Tq n).2 (wps Tq T n).1 (wps Tq T n).2 b l H Q X := rfl
theorem repI {n : Int} : (∀ (P : Params) (I : Led) (xs : List Addr) (V : Value),RepV P I xs (AV.int n) V → RepV P I [] (AV.int n) V) = True := eq_true fun P I xs V h => by obtain ⟨t,rfl⟩ := h.i; exact .int _ _ .nil
theorem seq_next {g : SF} {r : List IS} {Q : FL → Loc → MH → Prop} {X : Nat → MH → Prop} {l : Loc} {H : MH} : seqQ g r Q X .next l H = g r l H Q X := rfl
noncomputable def callG (o : Option Con) (vs : List AV) (H : MH) (Q : AV → MH → Prop) (X : Nat → MH → Prop) : Prop := match o with | some C => C vs H Q X | none => False
noncomputable def Veil (_ : AV → MH → Prop) : Type := PUnit
noncomputable def hid (C : Con) (vs : List AV) (H : MH) (Q : AV → MH → Prop) (X : Nat → MH → Prop) (_ : Veil Q) : Prop := C vs H Q X
theorem callH {o : Option Con} {C : Con} (t : o = some C) {vs : List AV} {H : MH} {Q : AV → MH → Prop} {X : Nat → MH → Prop} : callG o vs H Q X = hid C vs H Q X PUnit.unit := by rw [t]; rfl
theorem callI {o : Option Con} {C : Con} (t : o = some C) {vs : List AV} {H : MH} {Q : AV → MH → Prop} {X : Nat → MH → Prop} (h : C vs H Q X) : callG o vs H Q X := by rw [t]; exact h
theorem callR {o : Option Con} {n g : Nat} {vs : List AV} {v : AV} (t : o = some (evCon n g)) (e : runF n g vs = .ok v) {H : MH} {Q : AV → MH → Prop} {X : Nat → MH → Prop} : callG o vs H Q X = Q v H := by
  rw [t]
  show (runF n g vs).holds H Q X = _
  rw [e]; rfl
theorem ser11h {T : Nat → Option Con} {fq f : EF} {l : Loc} {H : MH} {Q : AV → MH → Prop} {X : Nat → MH → Prop} {g : Nat} {es : List IE} : stepE T fq f (.call g es) l H Q X = evs f es l H (fun vs H1 => callG (T g) vs H1 Q X) X := rfl
theorem ser13h {T : Nat → Option Con} {fq f : EF} {l : Loc} {H : MH} {Q : AV → MH → Prop} {X : Nat → MH → Prop} {g : Nat} {o : IE} {es : List IE} : stepE T fq f (.meth g o es) l H Q X = f o l H (fun v H1 => match v with | .inst C' fs => C' = mcls g ∧ evs f es l H1 (fun vs H2 => callG (T g) (.inst C' fs :: vs) H2 Q X) X | _ => False) X := rfl
theorem vwi1 {H H' : MH} {a b : Int} {Q : AV → Prop} : binV .Add (view H (.int a)) (view H' (.int b)) Q = (True ∧ Q (.int (a + b))) := rfl
theorem vwi2 {H H' : MH} {a b : Int} {Q : AV → Prop} : binV .Sub (view H (.int a)) (view H' (.int b)) Q = (True ∧ Q (.int (a - b))) := rfl
theorem vwi3 {H H' : MH} {a b : Int} {Q : AV → Prop} : binV .Mult (view H (.int a)) (view H' (.int b)) Q = (IntMulOk a b ∧ Q (.int (a * b))) := rfl
theorem vwi4 {H H' : MH} {a b : Int} {Q : AV → Prop} : binV .Mod (view H (.int a)) (view H' (.int b)) Q = (b ≠ 0 ∧ Q (.int (a.fmod b))) := rfl
theorem vwi5 {H H' : MH} {a b : Int} {Q : AV → Prop} : binV .FloorDiv (view H (.int a)) (view H' (.int b)) Q = ((b ≠ 0 ∧ b.natAbs.log2 < 9000) ∧ Q (.int (a.fdiv b))) := rfl
theorem vwi6 {H H' : MH} {a b : Int} {Q : AV → Prop} : binV .LShift (view H (.int a)) (view H' (.int b)) Q = ((0 ≤ b ∧ (Builtin.Int.intBits a : Int) + b ≤ 2 ^ 27) ∧ Q (.int (a * 2 ^ b.toNat))) := rfl
theorem vwi7 {H H' : MH} {a b : Int} {Q : AV → Prop} : binV .RShift (view H (.int a)) (view H' (.int b)) Q = (0 ≤ b ∧ Q (.int (a.fdiv (2 ^ b.toNat)))) := rfl
theorem vwi8 {H H' : MH} {a b : Int} {Q : AV → Prop} : binV .BitAnd (view H (.int a)) (view H' (.int b)) Q = (True ∧ Q (.int (Builtin.bitAnd a b))) := rfl
theorem vwi9 {H H' : MH} {a b : Int} {Q : AV → Prop} : binV .Pow (view H (.int a)) (view H' (.int b)) Q = ((0 ≤ b ∧ b ≤ 1000000 ∧ a.natAbs < 2 ^ 64) ∧ Q (.int (a ^ b.toNat))) := rfl
theorem vws {H H' : MH} {x y : Str} {Q : AV → Prop} : binV .Add (view H (.str x)) (view H' (.str y)) Q = (x.length + y.length ≤ sizeLine ∧ Q (.str (x ++ y))) := rfl
theorem vwm {H H' : MH} {x : Str} {n : Int} {Q : AV → Prop} : binV .Mult (view H (.str x)) (view H' (.int n)) Q = ((0 ≤ n ∧ n ≤ 1000 ∧ x.length ≤ 16) ∧ Q (.str (Txt.mul x n))) := rfl
theorem vci1 {H H' : MH} {a b : Int} {k : Bool → Prop} : cmpV .Eq (view H (.int a)) (view H' (.int b)) k = k (decide (a = b)) := rfl
theorem vci2 {H H' : MH} {a b : Int} {k : Bool → Prop} : cmpV .NotEq (view H (.int a)) (view H' (.int b)) k = k ((!decide (a = b))) := rfl
theorem vci3 {H H' : MH} {a b : Int} {k : Bool → Prop} : cmpV .Lt (view H (.int a)) (view H' (.int b)) k = k (decide (a < b)) := rfl
theorem vci4 {H H' : MH} {a b : Int} {k : Bool → Prop} : cmpV .LtE (view H (.int a)) (view H' (.int b)) k = k (decide (a ≤ b)) := rfl
theorem vci5 {H H' : MH} {a b : Int} {k : Bool → Prop} : cmpV .Gt (view H (.int a)) (view H' (.int b)) k = k (decide (b < a)) := rfl
theorem vci6 {H H' : MH} {a b : Int} {k : Bool → Prop} : cmpV .GtE (view H (.int a)) (view H' (.int b)) k = k (decide (b ≤ a)) := rfl
theorem vcs1 {H H' : MH} {a b : Str} {k : Bool → Prop} : cmpV .Eq (view H (.str a)) (view H' (.str b)) k = k (decide (a = b)) := rfl
theorem vcs2 {H H' : MH} {a b : Str} {k : Bool → Prop} : cmpV .NotEq (view H (.str a)) (view H' (.str b)) k = k (!decide (a = b)) := rfl
theorem vcn1 {H H' : MH} {a : Str} {k : Bool → Prop} : cmpV .Is (view H (.str a)) (view H' .none) k = k false := rfl
theorem vcn2 {H H' : MH} {k : Bool → Prop} : cmpV .Is (view H .none) (view H' .none) k = k true := rfl
theorem vcn3 {H H' : MH} {a : Str} {k : Bool → Prop} : cmpV .IsNot (view H (.str a)) (view H' .none) k = k (!false) := rfl
theorem vcn4 {H H' : MH} {k : Bool → Prop} : cmpV .IsNot (view H .none) (view H' .none) k = k (!true) := rfl
theorem vid1 {H : MH} {xs : List AV} {k : Int} {Q : AV → Prop} : idxV (view H (.lst xs)) (.int k) Q = ((0 ≤ k ∧ k < xs.length ∧ xs.length ≤ 100000) ∧ Q (xs.getD k.toNat .none)) := rfl
theorem vid2 {H : MH} {xs : List AV} {k : Int} {Q : AV → Prop} : idxV (view H (.tup xs)) (.int k) Q = ((0 ≤ k ∧ k < xs.length ∧ xs.length ≤ 100000) ∧ Q (xs.getD k.toNat .none)) := rfl
theorem vid3 {H : MH} {x : Str} {k : Int} {Q : AV → Prop} : idxV (view H (.str x)) (.int k) Q = ((0 ≤ k ∧ k < x.length ∧ x.length ≤ 100000) ∧ Q (.str (Txt.item x k))) := rfl
theorem vsl4 {H : MH} {x : Str} {b : Int} {Q : AV → Prop} : sliceV (view H (.str x)) none (some (.int b)) Q = ((0 ≤ b ∧ b ≤ 100000 ∧ x.length ≤ 100000) ∧ Q (.str (Txt.slice x none (some b)))) := rfl
theorem vsl5 {H : MH} {x : Str} {a : Int} {Q : AV → Prop} : sliceV (view H (.str x)) (some (.int a)) none Q = ((0 ≤ a ∧ a ≤ 100000 ∧ x.length ≤ 100000) ∧ Q (.str (Txt.slice x (some a) none))) := rfl
theorem vsl6 {H : MH} {x : Str} {a b : Int} {Q : AV → Prop} : sliceV (view H (.str x)) (some (.int a)) (some (.int b)) Q = ((0 ≤ a ∧ a ≤ 100000 ∧ 0 ≤ b ∧ b ≤ 100000 ∧ x.length ≤ 100000) ∧ Q (.str (Txt.slice x (some a) (some b)))) := rfl
theorem vim {H : MH} {i : Nat} {xs : List AV} (h : H[i]? = some xs) {k : Int} {Q : AV → Prop} : idxV (view H (.mu i)) (.int k) Q = ((0 ≤ k ∧ k < xs.length ∧ xs.length ≤ 100000) ∧ Q (xs.getD k.toNat .none)) := by
  have e : view H (.mu i) = .lst xs := by show (match H[i]? with | some xs => AV.lst xs | none => .mu i) = _; rw [h]
  rw [e]; rfl
theorem brT {p q : Prop} : brB true p q = p := propext ⟨fun h => h.1 rfl,fun h => ⟨fun _ => h,fun h => falseX (Eq.symm h)⟩⟩
theorem brF {p q : Prop} : brB false p q = q := propext ⟨fun h => h.2 rfl,fun h => ⟨(fun h => falseX h),fun _ => h⟩⟩
theorem brCT {c : Bool} {p q : Prop} (h : c = true) : brB c p q = p := by rw [h]; exact brT
theorem brCF {c : Bool} {p q : Prop} (h : c = false) : brB c p q = q := by rw [h]; exact brF
noncomputable def Body (T : Nat → Option Con) (lo : Lo) (ib : List IS) : Con := fun args H Q X => args.length = lo.1.length ∧ (wpq T 26).2 ib (args.map some ++ List.replicate (lo.2.1.length - lo.1.length) none) H (fun fl _ H' => match fl with | .ret v => Q v H' | .next => Q .none H' | _ => False) X
noncomputable def BodyL (Tq T : Nat → Option Con) (lo : Lo) (ib : List IS) : Con := fun args H Q X => args.length = lo.1.length ∧ (wps Tq T 26).2 ib (args.map some ++ List.replicate (lo.2.1.length - lo.1.length) none) H (fun fl _ H' => match fl with | .ret v => Q v H' | .next => Q .none H' | _ => False) X
theorem brB_of {b : Bool} {p q : Prop} (h1 : b = true → p) (h2 : b = false → q) : brB b p q := ⟨h1,h2⟩
theorem mul_ok {a b : Int} (h : Builtin.Int.intBits a ≤ shortFactorBits ∨ Builtin.Int.intBits b ≤ shortFactorBits) : IntMulOk a b := by
  unfold IntMulOk
  rcases h with h | h
  · have : decide (Builtin.Int.intBits a > shortFactorBits) = false := by simpa using h
    rw [this]; simp
  · have : decide (Builtin.Int.intBits b > shortFactorBits) = false := by simpa using h
    rw [this]; simp
theorem log_ok {n : Int} (h1 : 1 ≤ n) (h2 : n ≤ 2 ^ 200) : n.natAbs.log2 < 9000 := by
  have h3 : n.natAbs < 2 ^ 201 := by omega
  exact Nat.lt_of_lt_of_le ((Nat.log2_lt (by lia)).mpr h3) (by decide)
inductive drawC (args : List AV) (H : MH) (Q : AV → MH → Prop) (X : Nat → MH → Prop) : Prop where
  | mk : ∀ i many a b,(args = [.mu i,.int many]) → (H[i]? = some [.int a,.int b]) → (1 ≤ many) → (many ≤ 2 ^ 130) → (0 ≤ a) → (0 ≤ b) → (b ≤ 1000000) → (∀ d a' b',0 ≤ d → d < many → 0 ≤ a' → 0 ≤ b' → b' ≤ b + 1 → Q (.int d) (H.set i [.int a',.int b'])) → drawC args H Q X
theorem draw_wp {T : Nat → Option Con} {args H Q X} (h : drawC args H Q X) : Body T lo_law_draw ir_law_draw args H Q X := by
  obtain ⟨i,many,a,b,rfl,hi,h1,h2,h3,h4,h5,q⟩ := h
  refine ⟨rfl,?_⟩
  have hil : i < H.length := (List.getElem?_eq_some_iff.mp hi).1
  have gs : ∀ x,(H.set i x)[i]? = some x := fun x => by simp [hil]
  have hm : ∀ x : Int,0 ≤ x → 0 ≤ x.fmod many ∧ x.fmod many < many ∧ 0 ≤ x.fdiv many := fun x hx => by
    rw [Int.fmod_eq_emod_of_nonneg _ (by (exact Int.le_of_lt (by assumption))),Int.fdiv_eq_ediv_of_nonneg _ (by (exact Int.le_of_lt (by assumption)))]
    exact ⟨Int.emod_nonneg _ (by (exact Int.ne_of_gt (by assumption))),Int.emod_lt_of_pos _ (by assumption),Int.ediv_nonneg hx (by (exact Int.le_of_lt (by assumption)))⟩
  have hlog : many.natAbs.log2 < 9000 := log_ok h1 (by (exact Int.le_trans (by assumption) (by decide)))
  simp only [↓wq2,↓wq1,↓wl2,↓wl1,↓stepS,↓sir1,↓sir2,↓sir3,↓sir4,↓sir5,↓sir6,↓sir7,↓sir8,↓sir9,↓sir10,↓sir11,↓sir12,↓ser1,↓ser2,↓ser3,↓ser4,↓ser5,↓ser6,↓ser7,↓ser8,↓ser9,↓ser10,↓ser11h,↓ser12,↓ser13h,↓ser14,↓ser15,↓ser16,↓ser17,↓ser18,↓ser19,↓ser20,↓ser21,↓ser22,view,↓biv1,↓biv2,↓biv3,↓biv4,↓bii1,↓bii2,↓bii3,↓bii4,↓bii5,↓bii6,↓bii7,↓bii8,↓bii9,↓evr1,↓evr2,↓eor1,↓eor2,↓idr1,↓idr2,↓idr3,↓cmr1,↓cmr2,↓cmr3,↓cmr4,↓cmr5,↓cmr6,↓cmr7,↓cmr8,↓cmr9,↓ino1,↓ino2,↓iso1,↓iso2,eqo1,eqo2,↓cmi1,↓cmi2,↓cmi3,↓cmi4,↓cmi5,↓cmi6,↓opr,↓isr,↓bfr1,↓bfr2,↓bfr3,↓bfr4,↓bfr5,↓bfr6,↓bfr7,↓bfr8,↓bfr9,↓bfr10,↓bfr11,↓bfr12,↓bfr13,↓bfr14,sek1,sek2,sea1,sea2,sea3,↓anr1,↓anr2,↓orr1,↓orr2,↓slr1,↓slr2,↓slr3,↓slr4,↓slr5,↓slr6,mapC,mapN,List.getElem?_cons_zero,List.getElem?_cons_succ,List.cons_append,List.nil_append,List.set_cons_zero,List.set_cons_succ,List.length_cons,List.length_nil,Nat.reduceAdd,Nat.reduceSub,List.replicate,Int.reduceToNat,Int.toNat_zero,Int.toNat_one,gdZ,gdS,List.set_set,true_and,repI,rv1,rv2,rv3,rv0,↓brCT,↓brCF,decide_true,decide_false,↓vwi1,↓vwi2,↓vwi3,↓vwi4,↓vwi5,↓vwi6,↓vwi7,↓vwi8,↓vwi9,↓vws,↓vwm,↓vci1,↓vci2,↓vci3,↓vci4,↓vci5,↓vci6,↓vcs1,↓vcs2,↓vcn1,↓vcn2,↓vcn3,↓vcn4,↓vid1,↓vid2,↓vid3,↓vsl4,↓vsl5,↓vsl6,ir_law_draw,lo_law_draw,↓seqQ,↓vim hi,↓vim (gs _),hi,gs]
  refine ⟨⟨by decide,by decide,by decide⟩,brB_of (fun _ => ?_) fun _ => ?_⟩
  · have hb : (0 : Int) ≤ (2038 * (b + 1) + 7013) ^ 9 := by
      have : (0 : Int) ≤ 2038 * (b + 1) + 7013 := by lia
      exact Int.pow_nonneg this
    obtain ⟨e1,e2,e3⟩ := hm _ hb
    refine ⟨⟨by decide,of_decide_eq_true rfl,of_decide_eq_true rfl⟩,⟨of_decide_eq_true rfl,of_decide_eq_true rfl,of_decide_eq_true rfl⟩,⟨of_decide_eq_true rfl,of_decide_eq_true rfl,of_decide_eq_true rfl⟩,mul_ok (.inl (by decide +kernel)),⟨by decide,by decide,by lia⟩,⟨of_decide_eq_true rfl,of_decide_eq_true rfl,of_decide_eq_true rfl⟩,⟨of_decide_eq_true rfl,of_decide_eq_true rfl,of_decide_eq_true rfl⟩,by (exact Int.ne_of_gt (by assumption)),⟨of_decide_eq_true rfl,of_decide_eq_true rfl,of_decide_eq_true rfl⟩,⟨by omega,hlog⟩,⟨of_decide_eq_true rfl,of_decide_eq_true rfl,of_decide_eq_true rfl⟩,?_⟩
    exact q _ _ _ e1 e2 e3 (by lia) (by exact Int.le_refl _)
  · obtain ⟨e1,e2,e3⟩ := hm _ h3
    refine ⟨⟨of_decide_eq_true rfl,of_decide_eq_true rfl,of_decide_eq_true rfl⟩,by omega,⟨of_decide_eq_true rfl,of_decide_eq_true rfl,of_decide_eq_true rfl⟩,⟨by omega,hlog⟩,⟨of_decide_eq_true rfl,of_decide_eq_true rfl,of_decide_eq_true rfl⟩,?_⟩
    exact q _ _ _ e1 e2 e3 h4 (by lia)
theorem bitAnd_mask (x : Int) (n : Nat) : Builtin.bitAnd x (2 ^ n - 1) = x % 2 ^ n := by
  have hp : (0 : Int) < 2 ^ n := Int.pow_pos (by decide)
  have hc : ((2 ^ n : Nat) : Int) = 2 ^ n := by simp
  have hn : (0 : Nat) < 2 ^ n := Nat.pos_of_ne_zero (by simp)
  have ht : ((2 : Int) ^ n - 1).toNat = 2 ^ n - 1 := by lia
  unfold Builtin.bitAnd
  rw [decide_eq_true (show (0 : Int) ≤ 2 ^ n - 1 by lia),ht]
  by_cases hx : 0 ≤ x
  · rw [decide_eq_true hx]
    dsimp only
    rw [Nat.and_two_pow_sub_one_eq_mod]
    obtain ⟨k,rfl⟩ := Int.eq_ofNat_of_zero_le hx
    simp
  · rw [decide_eq_false hx]
    dsimp only
    rw [Nat.and_comm,Nat.and_two_pow_sub_one_eq_mod]
    have hb : Builtin.bitNot x = -x - 1 := by unfold Builtin.bitNot; lia
    rw [hb]
    have h0 : (0 : Int) ≤ -x - 1 := by lia
    have e1 : (((-x - 1).toNat % 2 ^ n : Nat) : Int) = (-x - 1) % 2 ^ n := by
      simp only [Int.natCast_emod,Int.toNat_of_nonneg h0,hc]
    rw [e1]
    have h1 := Int.emod_nonneg (-x - 1) (Int.ne_of_gt hp)
    have h2 := Int.emod_lt_of_pos (-x - 1) hp
    have h3 := Int.mul_ediv_add_emod (-x - 1) (2 ^ n)
    have h4 : x = 2 ^ n * (-((-x - 1) / 2 ^ n) - 1) + (2 ^ n - 1 - (-x - 1) % 2 ^ n) := by
      rw [Int.mul_sub,Int.mul_neg]; lia
    have h5 := Int.add_mul_emod_self_left (2 ^ n - 1 - (-x - 1) % 2 ^ n) (2 ^ n) (-((-x - 1) / 2 ^ n) - 1)
    rw [Int.add_comm,← h4] at h5
    rw [h5]
    exact (Int.emod_eq_of_lt (by lia) (by omega)).symm
noncomputable def sgn (x : Int) (n : Nat) : Int := if 2 ^ n ≤ 2 * (x % 2 ^ n) then x % 2 ^ n - 2 ^ n else x % 2 ^ n
theorem top_iff {x n : Int} (h0 : 1 ≤ n) : (x % 2 ^ n.toNat).fdiv (2 ^ (n - 1).toNat) = 1 ↔ 2 ^ n.toNat ≤ 2 * (x % 2 ^ n.toNat) := by
  obtain ⟨k,rfl⟩ : ∃ k : Nat,n = (k + 1 : Nat) := ⟨(n - 1).toNat,by omega⟩
  have e1 : ((k + 1 : Nat) : Int).toNat = k + 1 := by lia
  have e2 : (((k + 1 : Nat) : Int) - 1).toNat = k := by lia
  rw [e1,e2]
  have hp : (0 : Int) < 2 ^ k := Int.pow_pos (by decide)
  have hs : (2 : Int) ^ (k + 1) = 2 ^ k * 2 := Int.pow_succ 2 k
  have h1 := Int.emod_nonneg x (Int.ne_of_gt (show (0 : Int) < 2 ^ (k + 1) by lia))
  have h2 := Int.emod_lt_of_pos x (show (0 : Int) < 2 ^ (k + 1) by lia)
  rw [Int.fdiv_eq_ediv_of_nonneg _ (Int.le_of_lt hp)]
  generalize x % 2 ^ (k + 1) = y at *
  constructor
  · intro h
    have := Int.mul_ediv_add_emod y (2 ^ k)
    have := Int.emod_nonneg y (Int.ne_of_gt hp)
    rw [h] at *
    lia
  · intro h
    have a : 1 ≤ y / 2 ^ k := (Int.le_ediv_iff_mul_le hp).mpr (by lia)
    have b : y / 2 ^ k < 2 := Int.ediv_lt_of_lt_mul hp (by lia)
    lia
section
variable {T : Nat → Option Con} {args : List AV} {H : MH} {Q : AV → MH → Prop} {X : Nat → MH → Prop}
noncomputable def maskC : Con := fun args H Q X => ∃ n : Int,args = [.int n] ∧ 0 ≤ n ∧ n ≤ 1000 ∧ Q (.int (2 ^ n.toNat - 1)) H
theorem mask_wp (h : maskC args H Q X) : Body T lo_mask ir_mask args H Q X := by
  obtain ⟨n,rfl,h0,h1,q⟩ := h
  refine ⟨rfl,?_⟩
  have hb : Builtin.Int.intBits 1 = 1 := by decide +kernel
  simp only [wq2,stepS,ir_mask,sir7,wq1,ser4,ser1,ser2,mapC,mapN,lo_mask,List.length_cons,List.length_nil,Nat.reduceAdd,Nat.reduceSub,List.replicate,List.cons_append,List.nil_append,List.getElem?_cons_zero,vwi6,hb,vwi2,seqQ,true_and]
  exact ⟨⟨h0,by lia⟩,by rw [Int.one_mul]; exact q⟩
noncomputable def wrapC : Con := fun args H Q X => ∃ x n : Int,args = [.int x,.int n] ∧ 0 ≤ n ∧ n ≤ 1000 ∧ Q (.int (x % 2 ^ n.toNat)) H
theorem wrap_wp (t92 : T 92 = some maskC) (h : wrapC args H Q X) : Body T lo_wrap ir_wrap args H Q X := by
  obtain ⟨x,n,rfl,h0,h1,q⟩ := h
  refine ⟨rfl,?_⟩
  simp only [↓wq2,stepS,ir_wrap,↓sir7,↓wq1,↓ser4,↓ser2,mapC,mapN,lo_wrap,List.length_cons,List.length_nil,Nat.reduceAdd,Nat.reduceSub,List.replicate,List.cons_append,List.nil_append,List.getElem?_cons_zero,↓ser11h,↓evr2,List.getElem?_cons_succ,↓evr1,↓callH t92,view,seqQ]
  exact ⟨n,rfl,h0,h1,by simp only [↓biv1,↓bii8,true_and]; rw [bitAnd_mask]; exact q⟩
noncomputable def signedC : Con := fun args H Q X => ∃ x n : Int,args = [.int x,.int n] ∧ 1 ≤ n ∧ n ≤ 1000 ∧ Q (.int (sgn x n.toNat)) H
theorem signed_wp (t99 : T 99 = some wrapC) (h : signedC args H Q X) : Body T lo_signed ir_signed args H Q X := by
  obtain ⟨x,n,rfl,h0,h1,q⟩ := h
  refine ⟨rfl,?_⟩
  have hb : Builtin.Int.intBits 1 = 1 := by decide +kernel
  simp only [↓wq2,stepS,ir_signed,↓sir1,↓wq1,↓ser11h,↓evr2,↓ser2,mapC,mapN,lo_signed,List.length_cons,List.length_nil,Nat.reduceAdd,Nat.reduceSub,List.replicate,List.cons_append,List.nil_append,List.getElem?_cons_zero,List.getElem?_cons_succ,↓evr1,↓callH t99,sek1,List.set_cons_succ,List.set_cons_zero,seqQ,↓sir4,↓ser5,↓ser4,↓ser1,view,↓isr,↓sir7,↓opr,↓biv1,↓bii6,↓bii2]
  refine ⟨x,n,rfl,by (exact Int.le_of_lt (by assumption)),h1,?_⟩
  simp only [biv1,bii7,cmr2,cmi1,hb,bii2,true_and,opr]
  refine ⟨by lia,brB_of (fun hc => ?_) fun hc => ?_⟩
  · have hc := (top_iff h0).mp (of_decide_eq_true hc)
    refine ⟨⟨by (exact Int.le_of_lt (by assumption)),by lia⟩,?_⟩
    rw [sgn,if_pos hc] at q
    rw [Int.one_mul]; exact q
  · have hc := mt (top_iff h0).mpr (of_decide_eq_false hc)
    rw [sgn,if_neg hc] at q
    exact q
inductive extC (args : List AV) (H : MH) (Q : AV → MH → Prop) (X : Nat → MH → Prop) : Prop where
  | mk : ∀ (x n b : Int),(args = [.int x,.int n,.int b]) → (1 ≤ n) → (n ≤ 1000) → (0 ≤ b) → (b ≤ 1000) → (Q (.int (sgn x n.toNat % 2 ^ b.toNat)) H) → extC args H Q X
theorem ext_wp (t99 : T 99 = some wrapC) (t106 : T 106 = some signedC) (h : extC args H Q X) : Body T lo_extended ir_extended args H Q X := by
  obtain ⟨x,n,b,rfl,h0,h1,h2,h3,q⟩ := h
  refine ⟨rfl,?_⟩
  simp only [↓wq2,stepS,ir_extended,↓sir7,↓wq1,↓ser11h,↓evr2,↓ser2,mapC,mapN,lo_extended,List.length_cons,List.length_nil,Nat.reduceAdd,Nat.reduceSub,List.replicate,List.cons_append,List.nil_append,List.getElem?_cons_zero,List.getElem?_cons_succ,↓evr1,↓callH t106,seqQ]
  exact ⟨x,n,rfl,h0,h1,callI t99 ⟨_,_,rfl,h2,h3,q⟩⟩
noncomputable def bitC : Con := fun args H Q X => ∃ x n : Int,args = [.int x,.int n] ∧ 0 ≤ n ∧ Q (.int (x.fdiv (2 ^ n.toNat) % 2)) H
theorem bit_wp (h : bitC args H Q X) : Body T lo_bit ir_bit args H Q X := by
  obtain ⟨x,n,rfl,h0,q⟩ := h
  refine ⟨rfl,?_⟩
  simp only [wq2,stepS,ir_bit,sir7,wq1,ser4,ser2,mapC,mapN,lo_bit,List.length_cons,List.length_nil,Nat.reduceAdd,Nat.reduceSub,List.replicate,List.cons_append,List.nil_append,List.getElem?_cons_zero,List.getElem?_cons_succ,vwi7,ser1,vwi8,seqQ,true_and]
  exact ⟨h0,by rw [bitAnd_m1]; exact q⟩
noncomputable def topC : Con := fun args H Q X => ∃ x n : Int,args = [.int x,.int n] ∧ 1 ≤ n ∧ Q (.int (x.fdiv (2 ^ (n - 1).toNat) % 2)) H
theorem top_wp (t120 : T 120 = some bitC) (h : topC args H Q X) : Body T lo_top_bit ir_top_bit args H Q X := by
  obtain ⟨x,n,rfl,h0,q⟩ := h
  refine ⟨rfl,?_⟩
  simp only [↓wq2,stepS,ir_top_bit,↓sir7,↓wq1,↓ser11h,↓evr2,↓ser2,mapC,mapN,lo_top_bit,List.length_cons,List.length_nil,Nat.reduceAdd,Nat.reduceSub,List.replicate,List.cons_append,List.nil_append,List.getElem?_cons_zero,↓ser4,List.getElem?_cons_succ,↓ser1,↓vwi2,↓evr1,↓callH t120,seqQ,true_and]
  exact ⟨x,n - 1,rfl,by lia,q⟩
inductive joinedC (args : List AV) (H : MH) (Q : AV → MH → Prop) (X : Nat → MH → Prop) : Prop where
  | mk : ∀ (o x n : Int),(args = [.int o,.int x,.int n]) → (0 ≤ n) → (n ≤ 1000) → (Q (.int (if 32 ≤ n then x else o - o % 2 ^ n.toNat + x)) H) → joinedC args H Q X
theorem joined_wp (t99 : T 99 = some wrapC) (h : joinedC args H Q X) : Body T lo_joined ir_joined args H Q X := by
  obtain ⟨o,x,n,rfl,h0,h1,q⟩ := h
  refine ⟨rfl,?_⟩
  simp only [↓wq2,stepS,ir_joined,↓sir4,↓wq1,↓ser5,↓ser2,mapC,mapN,lo_joined,List.length_cons,List.length_nil,Nat.reduceAdd,Nat.reduceSub,List.replicate,List.cons_append,List.nil_append,List.getElem?_cons_succ,List.getElem?_cons_zero,↓ser1,↓vci6,↓isr,↓sir7,seqQ,↓ser4,↓ser11h,↓evr2,↓evr1,↓callH t99,view]
  refine brB_of (fun hc => ?_) fun hc => ?_
  · rw [if_pos (of_decide_eq_true hc)] at q; exact q
  · rw [if_neg (of_decide_eq_false hc)] at q
    exact ⟨o,n,rfl,h0,h1,trivial,trivial,q⟩
inductive pickC (args : List AV) (H : MH) (Q : AV → MH → Prop) (X : Nat → MH → Prop) : Prop where
  | mk : ∀ i xs a b,(args = [.mu i,.lst xs]) → (H[i]? = some [.int a,.int b]) → (xs ≠ []) → (xs.length ≤ 1000) → (0 ≤ a) → (0 ≤ b) → (b ≤ 1000000) → (∀ v ∈ xs,∀ a' b',0 ≤ a' → 0 ≤ b' → b' ≤ b + 1 → Q v (H.set i [.int a',.int b'])) → pickC args H Q X
theorem pick_wp (t605 : T 605 = some drawC) (h : pickC args H Q X) : Body T lo_law_pick ir_law_pick args H Q X := by
  obtain ⟨i,xs,a,b,rfl,hi,hn,hl,h3,h4,h5,q⟩ := h
  refine ⟨rfl,?_⟩
  simp only [↓wq2,stepS,ir_law_pick,↓sir7,↓wq1,↓ser16,↓ser2,mapC,mapN,lo_law_pick,List.length_cons,List.length_nil,Nat.reduceAdd,Nat.reduceSub,List.replicate,List.cons_append,List.nil_append,List.getElem?_cons_succ,List.getElem?_cons_zero,↓ser11h,↓evr2,↓ser12,↓evr1,view,↓callH t605,seqQ,↓bfr5]
  have hlen : 0 < xs.length := List.length_pos_iff.mpr hn
  refine ⟨by (exact Nat.le_trans (by assumption) (by decide)),i,xs.length,a,b,rfl,hi,by lia,?_,h3,h4,h5,fun d a' b' d0 d1 ha hb hb' => ⟨⟨d0,d1,by (exact Nat.le_trans (by assumption) (by decide))⟩,?_⟩⟩
  · exact Int.le_trans (by lia : (xs.length : Int) ≤ 1000) (by decide)
  · have hk : d.toNat < xs.length := by lia
    refine q _ ?_ a' b' ha hb hb'
    rw [List.getD_eq_getElem?_getD,List.getElem?_eq_getElem hk]
    exact List.getElem_mem hk
noncomputable def penC : Con := fun args H Q X => ∃ ns : List Int,args = [.ext (ns.map .int)] ∧ ns.length ≤ 63 ∧ ∀ a,0 ≤ a → Q (.mu H.length) (H ++ [[.int a,.int 0]])
theorem pen_loop {k : Nat} {e : Option AV} {Q' : FL → Loc → MH → Prop} : ∀ (ns : List Int) (n : Int) (x : Option AV),0 ≤ n → (∀ n x,0 ≤ n → Q' .next [e,some (.int n),x] H) →
    forI (wpq T (k + 8)).2 [(2,false)] true [.asg 1 false (.bin .Add (.bin .Add (.bin .Mult (.loc 1) (.c (.int 1019))) (.bin .Mult (.c (.int 2)) (.bcall .abs [.bcall .int [.loc 2]]))) (.bcall .int [.cmp (.loc 2) .Lt (.c (.int 0))]))] X (ns.map .int) [e,some (.int n),x] H Q'
  | [],n,x,hn,h => h n x hn
  | z :: ns,n,x,hn,h => by
    show optP (bindT [(2,false)] true (.int z) [e,some (.int n),x]) _
    simp only [bit1,sek1,List.set_cons_succ,List.set_cons_zero,↓wq2,stepS,↓sir1,↓wq1,↓ser4,↓ser2,↓ser1,view,↓ser12,↓evr2,↓evr1,mapC,mapN,↓ser5,seqQ,↓opr,↓bfr3,List.getElem?_cons_succ,List.getElem?_cons_zero,↓biv1,↓bii3,↓bfr2,↓bfr1,↓bii1,↓cmr2,↓cmi3,true_and]
    refine ⟨mul_ok (.inr (by decide +kernel)),mul_ok (.inl (by decide +kernel)),?_⟩
    refine pen_loop ns _ _ ?_ h
    have : (0 : Int) ≤ n * 1019 := Int.mul_nonneg hn (by decide)
    split <;> lia
theorem pen_wp (h : penC args H Q X) : Body T lo_law_pen ir_law_pen args H Q X := by
  obtain ⟨ns,rfl,hl,q⟩ := h
  refine ⟨rfl,?_⟩
  simp only [↓wq2,stepS,ir_law_pen,↓sir1,↓wq1,↓ser1,mapC,mapN,lo_law_pen,List.length_cons,List.length_nil,Nat.reduceAdd,Nat.reduceSub,List.replicate,List.cons_append,List.nil_append,sek1,List.set_cons_succ,List.set_cons_zero,seqQ,↓sir5,↓ser17,↓ser2,↓eor1,↓eor2,view,↓opr,List.getElem?_cons_zero,↓slr2,Int.reduceToNat]
  refine ⟨⟨by decide,by decide,by simp; (exact Nat.le_trans (by assumption) (by decide))⟩,?_⟩
  simp only [its_l,its_t,its_b,opr,isr]
  have e : (ns.map AV.int).take 63 = ns.map .int := List.take_of_length_le (by simp; omega)
  rw [e]
  refine pen_loop ns 13 _ (by decide) fun n x hn => ?_
  simp only [seqQ,↓wq2,stepS,↓sir7,↓wq1,↓ser19,↓evr2,↓ser2,List.getElem?_cons_succ,List.getElem?_cons_zero,↓ser1,↓evr1,List.length_cons,List.length_nil,Nat.reduceAdd]
  refine ⟨by decide,?_,q n hn⟩
  intro P I xs Vs h
  obtain ⟨V1,R1,rfl,r1,h⟩ := h.uncons
  obtain ⟨V2,R2,rfl,r2,h⟩ := h.uncons
  obtain rfl := h.nil0
  obtain ⟨t1,rfl⟩ := r1.i
  obtain ⟨t2,rfl⟩ := r2.i
  exact .int _ _ (.int _ _ .nil)
end
noncomputable abbrev stV (r x : Nat) (va vb vc : Value) : AV := .inst 587 [.none,.mu r,.mu x,.val va,.val vb,.int 0,.int 0,.val vc,.bool false]
noncomputable abbrev regV (nm kd : Str) (n z : Int) : AV := .inst 196 [.str nm,.str kd,.int n,.int z]
theorem getD_int {R : List Int} {k : Nat} (h : k < R.length) : (R.map AV.int).getD k .none = .int (R.getD k 0) := by
  rw [List.getD_eq_getElem?_getD,List.getD_eq_getElem?_getD,List.getElem?_map,List.getElem?_eq_getElem h]; rfl
theorem set_int {R : List Int} {k : Nat} {v : Int} : (R.map AV.int).set k (.int v) = (R.set k v).map AV.int := by rw [List.map_set]
theorem ne1 : (("high" : Str) = "gpr") = False := eq_false (by decide)
theorem ne2 : (("xmm" : Str) = "gpr") = False := eq_false (by decide)
theorem ne3 : (("xmm" : Str) = "high") = False := eq_false (by decide)
section
variable {T : Nat → Option Con} {args : List AV} {H : MH} {Q : AV → MH → Prop} {X : Nat → MH → Prop}
noncomputable def StH (H : MH) (r x : Nat) (R M : List Int) : Prop := H[r]? = some (R.map .int) ∧ R.length = 16 ∧ H[x]? = some (M.map .int) ∧ M.length = 16 ∧ r ≠ x
inductive getC (args : List AV) (H : MH) (Q : AV → MH → Prop) (X : Nat → MH → Prop) : Prop where
  | mk : ∀ r x va vb vc R M nm kd n z,(args = [stV r x va vb vc,regV nm kd n z]) → (StH H r x R M) → (((kd = "gpr" ∧ 0 ≤ n ∧ n < 16 ∧ 0 ≤ z ∧ z ≤ 1000 ∧ Q (.int (R.getD n.toNat 0 % 2 ^ z.toNat)) H) ∨ (kd = "high" ∧ 4 ≤ n ∧ n < 20 ∧ Q (.int ((R.getD (n - 4).toNat 0).fdiv 256 % 256)) H) ∨ (kd = "xmm" ∧ 0 ≤ n ∧ n < 16 ∧ Q (.int (M.getD n.toNat 0)) H))) → getC args H Q X
theorem get_wp (t99 : T 99 = some wrapC) (h : getC args H Q X) : Body T lo_State_get ir_State_get args H Q X := by
  obtain ⟨r,x,va,vb,vc,R,M,nm,kd,n,z,rfl,⟨hr,hR,hx,hM,_⟩,h⟩ := h
  refine ⟨rfl,?_⟩
  rcases h with ⟨rfl,h0,h1,h2,h3,q⟩ | ⟨rfl,h0,h1,q⟩ | ⟨rfl,h0,h1,q⟩
  · have e := getD_int (R := R) (k := n.toNat) (by lia)
    simp only [↓wq2,stepS,ir_State_get,↓sir4,↓wq1,↓ser5,↓ser15,↓ser2,mapC,mapN,lo_State_get,List.length_cons,List.length_nil,Nat.reduceAdd,Nat.reduceSub,List.replicate,List.cons_append,List.nil_append,List.getElem?_cons_succ,List.getElem?_cons_zero,↓ser1,↓vcs1,↓isr,decide_true,↓brCT,↓sir7,↓ser11h,↓evr2,↓ser16,↓vim hr,↓evr1,↓callH t99,e,seqQ,true_and]
    exact ⟨⟨h0,by simp; lia,by simp; lia⟩,_,_,rfl,h2,h3,q⟩
  · have e := getD_int (R := R) (k := (n - 4).toNat) (by omega)
    simp only [↓wq2,stepS,ir_State_get,↓sir4,↓wq1,↓ser5,↓ser15,↓ser2,mapC,mapN,lo_State_get,List.length_cons,List.length_nil,Nat.reduceAdd,Nat.reduceSub,List.replicate,List.cons_append,List.nil_append,List.getElem?_cons_succ,List.getElem?_cons_zero,↓ser1,↓vcs1,↓isr,ne1,decide_false,↓brCF,seqQ,decide_true,↓brCT,↓sir7,↓ser11h,↓evr2,↓ser4,↓ser16,↓vwi2,↓vim hr,view,e,↓evr1,↓callH t99,↓biv1,↓bii7,Int.reduceToNat,true_and]
    refine ⟨⟨by lia,by simp; lia,by simp; lia⟩,by decide,_,_,rfl,of_decide_eq_true rfl,by decide,q⟩
  · have e := getD_int (R := M) (k := n.toNat) (by lia)
    simp only [↓wq2,stepS,ir_State_get,↓sir4,↓wq1,↓ser5,↓ser15,↓ser2,mapC,mapN,lo_State_get,List.length_cons,List.length_nil,Nat.reduceAdd,Nat.reduceSub,List.replicate,List.cons_append,List.nil_append,List.getElem?_cons_succ,List.getElem?_cons_zero,↓ser1,↓vcs1,↓isr,ne2,decide_false,↓brCF,seqQ,ne3,decide_true,↓brCT,↓sir7,↓ser16,↓vim hx,e,true_and]
    exact ⟨⟨by omega,by simp; lia,by simp; lia⟩,q⟩
noncomputable def joinV (o x n : Int) : Int := if 32 ≤ n then x else o - o % 2 ^ n.toNat + x
inductive putC (args : List AV) (H : MH) (Q : AV → MH → Prop) (X : Nat → MH → Prop) : Prop where
  | mk : ∀ r x va vb vc R M nm kd n z w,(args = [stV r x va vb vc,regV nm kd n z,.int w]) → (StH H r x R M) → (0 ≤ z) → (z ≤ 1000) → (((kd = "gpr" ∧ 0 ≤ n ∧ n < 16 ∧ Q .none (H.set r ((R.set n.toNat (joinV (R.getD n.toNat 0) (w % 2 ^ z.toNat) z)).map .int))) ∨
   (kd = "high" ∧ 4 ≤ n ∧ n < 20 ∧ Builtin.Int.intBits (w % 2 ^ z.toNat - (R.getD (n - 4).toNat 0).fdiv 256 % 256) ≤ 1000 ∧ Q .none (H.set r ((R.set (n - 4).toNat (R.getD (n - 4).toNat 0 + (w % 2 ^ z.toNat - (R.getD (n - 4).toNat 0).fdiv 256 % 256) * 256)).map .int))) ∨
   (kd = "xmm" ∧ 0 ≤ n ∧ n < 16 ∧ Q .none (H.set x ((M.set n.toNat (w % 2 ^ z.toNat)).map .int))))) → putC args H Q X
theorem put_wp (t99 : T 99 = some wrapC) (t481 : T 481 = some joinedC) (h : putC args H Q X) : Body T lo_State_put ir_State_put args H Q X := by
  obtain ⟨r,x,va,vb,vc,R,M,nm,kd,n,z,w,rfl,⟨hr,hR,hx,hM,_⟩,hz0,hz1,h⟩ := h
  refine ⟨rfl,?_⟩
  rcases h with ⟨rfl,h0,h1,q⟩ | ⟨rfl,h0,h1,hbits,q⟩ | ⟨rfl,h0,h1,q⟩
  · have e := getD_int (R := R) (k := n.toNat) (by omega)
    simp only [↓wq2,stepS,ir_State_put,↓sir1,↓wq1,↓ser11h,↓evr2,↓ser2,mapC,mapN,lo_State_put,List.length_cons,List.length_nil,Nat.reduceAdd,Nat.reduceSub,List.replicate,List.cons_append,List.nil_append,List.getElem?_cons_succ,List.getElem?_cons_zero,↓ser15,↓evr1,↓callH t99,sek1,List.set_cons_succ,List.set_cons_zero,seqQ,↓sir4,↓ser5,↓ser1,view,↓isr,↓sir3,↓ser16,↓ser4,↓sir10,↓opr,↓biv1,↓bii2,↓cmr3,cmpS,true_and]
    refine ⟨_,_,rfl,hz0,hz1,?_⟩
    simp only [decide_true,↓brCT,hr,↓callH t481,true_and,↓idr1,e]
    refine ⟨⟨h0,by simp; omega,by simp; omega⟩,_,_,_,rfl,hz0,hz1,?_⟩
    simp only [hr,repI,set_int,true_and]
    exact ⟨⟨h0,by simp; omega,by simp; omega⟩,q⟩
  · have e := getD_int (R := R) (k := (n - 4).toNat) (by lia)
    simp only [↓wq2,stepS,ir_State_put,↓sir1,↓wq1,↓ser11h,↓evr2,↓ser2,mapC,mapN,lo_State_put,List.length_cons,List.length_nil,Nat.reduceAdd,Nat.reduceSub,List.replicate,List.cons_append,List.nil_append,List.getElem?_cons_succ,List.getElem?_cons_zero,↓ser15,↓evr1,↓callH t99,sek1,List.set_cons_succ,List.set_cons_zero,seqQ,↓sir4,↓ser5,↓ser1,view,↓isr,↓sir3,↓ser16,↓ser4,↓sir10,↓opr,↓biv1,↓bii2,↓cmr3,cmpS,true_and]
    refine ⟨_,_,rfl,hz0,hz1,?_⟩
    simp only [ne1,decide_false,↓brCF,decide_true,↓brCT,hr,↓callH t99,↓idr1,e,↓biv1,↓bii7,Int.reduceToNat,true_and]
    refine ⟨⟨by lia,by simp; lia,by simp; lia⟩,by decide,_,_,rfl,of_decide_eq_true rfl,by decide,?_⟩
    simp only [↓biv1,↓bii2,Int.reduceToNat,↓bii6,e,hr,true_and,↓bii1,repI,set_int]
    refine ⟨⟨of_decide_eq_true rfl,?_⟩,⟨by omega,by simp; omega,by simp; omega⟩,q⟩
    have e2 : ((8 : Int).toNat) = 8 := rfl
    have e3 : (2 : Int) ^ 8 = 256 := rfl
    simp only [e2,e3,opr,isr]
    omega
  · have e := getD_int (R := M) (k := n.toNat) (by lia)
    simp only [↓wq2,stepS,ir_State_put,↓sir1,↓wq1,↓ser11h,↓evr2,↓ser2,mapC,mapN,lo_State_put,List.length_cons,List.length_nil,Nat.reduceAdd,Nat.reduceSub,List.replicate,List.cons_append,List.nil_append,List.getElem?_cons_succ,List.getElem?_cons_zero,↓ser15,↓evr1,↓callH t99,sek1,List.set_cons_succ,List.set_cons_zero,seqQ,↓sir4,↓ser5,↓ser1,view,↓isr,↓sir3,↓ser16,↓ser4,↓sir10,↓opr,↓biv1,↓bii2,↓cmr3,cmpS,true_and]
    refine ⟨_,_,rfl,hz0,hz1,?_⟩
    simp only [ne2,decide_false,↓brCF,ne3,decide_true,↓brCT,hx,repI,set_int,true_and]
    exact ⟨⟨by omega,by simp; lia,by simp; lia⟩,q⟩
end
noncomputable def regsOf (L : List Int) : List Int := L.take 16 ++ List.replicate (16 - L.length) 0
noncomputable def xmmOf (L : List Int) : List Int := L.drop 16 ++ List.replicate (16 - (L.length - 16)) 0
theorem regs_set {L : List Int} {d : Int} (h : L.length < 16) : (regsOf L).set L.length d = regsOf (L ++ [d]) := by
  unfold regsOf
  rw [List.take_of_length_le (by (exact Nat.le_of_lt (by assumption))),List.take_of_length_le (by simp; lia),List.set_append_right _ _ (Nat.le_refl _),Nat.sub_self]
  simp only [show 16 - L.length = (16 - (L ++ [d]).length) + 1 by simp; lia,List.replicate_succ,List.set_cons_zero]
  simp
theorem regs_stay {L : List Int} {d : Int} (h : 16 ≤ L.length) : regsOf (L ++ [d]) = regsOf L := by
  unfold regsOf
  rw [List.take_append_of_le_length h]
  congr 1
  rw [show 16 - (L ++ [d]).length = 0 by simp; omega,show 16 - L.length = 0 by omega]
theorem lenS1 {L : List Int} {d : Int} : (L ++ [d]).length = L.length + 1 := List.length_append
theorem xmm_set {L : List Int} {d : Int} (h : 16 ≤ L.length) (h2 : L.length < 32) : (xmmOf L).set (L.length - 16) d = xmmOf (L ++ [d]) := by
  unfold xmmOf
  rw [List.drop_append_of_le_length h,List.set_append_right _ _ (by rw [List.length_drop]; exact Nat.le_refl _),List.length_drop,Nat.sub_self,lenS1,Nat.succ_sub h]
  obtain ⟨k,hk⟩ : ∃ k,16 - (L.length - 16) = k + 1 := ⟨16 - (L.length - 16) - 1,(Nat.sub_add_cancel (Nat.sub_pos_of_lt (Nat.sub_lt_right_of_lt_add h h2))).symm⟩
  generalize L.length - 16 = m at *
  simp only [show 16 - (m + 1) = k from (congrArg Nat.pred hk : _),hk,List.replicate_succ,List.set_cons_zero]
  simp
theorem xmm_stay {L : List Int} {d : Int} (h : L.length < 16) : xmmOf (L ++ [d]) = xmmOf L := by
  unfold xmmOf
  rw [List.drop_of_length_le (by rw [lenS1]; exact h),List.drop_of_length_le (Nat.le_of_lt h),lenS1,Nat.sub_eq_zero_of_le (Nat.le_of_lt h),Nat.sub_eq_zero_of_le (Nat.succ_le_of_lt h)]
theorem regs_len (L : List Int) : (regsOf L).length = 16 := by
  unfold regsOf
  simp only [List.length_append,List.length_take,List.length_replicate]
  rcases Nat.le_total L.length 16 with h | h
  · rw [Nat.min_eq_right h,Nat.add_sub_cancel' h]
  · rw [Nat.min_eq_left h,Nat.sub_eq_zero_of_le h]
theorem xmm_len {L : List Int} (h : L.length ≤ 32) : (xmmOf L).length = 16 := by
  unfold xmmOf
  rw [List.length_append,List.length_drop,List.length_replicate,Nat.add_sub_cancel' (Nat.sub_le_of_le_add h)]
noncomputable def Cells (L : List Int) : Prop := ∀ (k : Nat) (v : Int),L[k]? = some v → 0 ≤ v ∧ v < (if k < 16 then 2 ^ 64 else 2 ^ 128)
theorem Cells.snoc {L : List Int} {d : Int} (h : Cells L) (h0 : 0 ≤ d) (h1 : d < (if L.length < 16 then 2 ^ 64 else 2 ^ 128)) : Cells (L ++ [d]) := by
  intro k v e
  by_cases hk : k < L.length
  · rw [List.getElem?_append_left hk] at e; exact h k v e
  · rw [List.getElem?_append_right (by (exact Nat.not_lt.mp (by assumption)))] at e
    by_cases hk2 : k = L.length
    · subst hk2; rw [Nat.sub_self] at e; cases Option.some.inj e; exact ⟨h0,h1⟩
    · rw [List.getElem?_singleton,if_neg (by lia)] at e; exact noneX e
section
variable {T : Nat → Option Con} {args : List AV} {H : MH} {Q : AV → MH → Prop} {X : Nat → MH → Prop}
noncomputable def hF (H : MH) (i : Nat) (a b : Int) (L : List Int) : MH := H.set i [.int a,.int b] ++ [(regsOf L).map .int,(xmmOf L).map .int,L.map .int]
noncomputable def hG (H : MH) (i : Nat) (a b : Int) (R M L : List Int) : MH := H.set i [.int a,.int b] ++ [R.map .int,M.map .int,L.map .int]
theorem hG_pen {i : Nat} {a b : Int} {R M L : List Int} (h : i < H.length) : (hG H i a b R M L)[i]? = some [.int a,.int b] := by
  unfold hG; rw [List.getElem?_append_left (by simpa using h)]; simp [h]
theorem hG_r {i : Nat} {a b : Int} {R M L : List Int} : (hG H i a b R M L)[H.length]? = some (R.map .int) := by
  unfold hG; rw [List.getElem?_append_right (by simp)]; simp
theorem hG_x {i : Nat} {a b : Int} {R M L : List Int} : (hG H i a b R M L)[H.length + 1]? = some (M.map .int) := by
  unfold hG; rw [List.getElem?_append_right (by simp)]; simp
theorem hG_l {i : Nat} {a b : Int} {R M L : List Int} : (hG H i a b R M L)[H.length + 2]? = some (L.map .int) := by
  unfold hG; rw [List.getElem?_append_right (by simp)]; simp
theorem hG_setp {i : Nat} {a b a' b' : Int} {R M L : List Int} (h : i < H.length) : (hG H i a b R M L).set i [.int a',.int b'] = hG H i a' b' R M L := by
  unfold hG; rw [List.set_append_left _ _ (by simpa using h),List.set_set]
theorem hG_setr {i : Nat} {a b : Int} {R M L R' : List Int} : (hG H i a b R M L).set H.length (R'.map .int) = hG H i a b R' M L := by
  unfold hG; rw [List.set_append_right _ _ (by simp)]; simp
theorem hG_setx {i : Nat} {a b : Int} {R M L R' : List Int} : (hG H i a b R M L).set (H.length + 1) (R'.map .int) = hG H i a b R R' L := by
  unfold hG; rw [List.set_append_right _ _ (by simp)]; simp
theorem hG_setl {i : Nat} {a b : Int} {R M L R' : List Int} : (hG H i a b R M L).set (H.length + 2) (R'.map .int) = hG H i a b R M R' := by
  unfold hG; rw [List.set_append_right _ _ (by simp)]; simp
theorem snoc_int {L : List Int} {d : Int} : L.map AV.int ++ [.int d] = (L ++ [d]).map .int := by simp
theorem pow64 : (2 : Int) ^ Int.toNat 64 = 2 ^ 64 := rfl
theorem pow128 : (2 : Int) ^ Int.toNat 128 = 2 ^ 128 := rfl
noncomputable def bodyS : List IS := [.ex (.smeth .append (.loc 2) [.call 605 [.loc 0,.ife (.cmp (.loc 3) .Lt (.c (.int 16))) (.bin .Pow (.c (.int 2)) (.c (.int 64))) (.bin .Pow (.c (.int 2)) (.c (.int 128)))]]),.iff (.cmp (.loc 3) .Lt (.c (.int 16))) [.asgI (.attr (.loc 1) 587 1) (.loc 3) (.idx (.loc 2) (.loc 3))] [.asgI (.attr (.loc 1) 587 2) (.bin .Sub (.loc 3) (.c (.int 16))) (.idx (.loc 2) (.loc 3))]]
theorem state_loop {n i : Nat} {va vb vc : Value} (t605 : T 605 = some drawC) (hi : i < H.length) {B : Int} (hB : B ≤ 900000) {Q' : FL → Loc → MH → Prop}
    (hQ : ∀ L a b z,L.length = 32 → Cells L → 0 ≤ a → 0 ≤ b → b ≤ B + 32 → Q' .next [some (.mu i),some (stV H.length (H.length + 1) va vb vc),some (.mu (H.length + 2)),z] (hG H i a b (regsOf L) (xmmOf L) L)) :
    ∀ (j k : Nat) (L : List Int) (a b : Int) (z : Option AV),k + j = 32 → L.length = k → Cells L → 0 ≤ a → 0 ≤ b → b ≤ B + k →
      forI (wpq T (n + 8)).2 [(3,false)] true bodyS X ((List.range' k j).map fun (q : Nat) => AV.int q) [some (.mu i),some (stV H.length (H.length + 1) va vb vc),some (.mu (H.length + 2)),z] (hG H i a b (regsOf L) (xmmOf L) L) Q' := by
  intro j
  induction j with
  | zero => intro k L a b z hk hl hc ha hb hbB; exact hQ L a b z (hl.trans hk) hc ha hb (by rw [show k = 32 from hk] at hbB; exact hbB)
  | succ j ih =>
    intro k L a b z hk hl hc ha hb hbB
    subst hl
    have h32 : L.length < 32 := Nat.lt_of_lt_of_eq (Nat.lt_add_of_pos_right (Nat.succ_pos j)) hk
    have hl1 := Nat.le_of_lt h32
    have hk' := (Nat.add_right_comm L.length 1 j).trans hk
    have hbM : b ≤ 1000000 := Int.le_trans hbB (Int.le_trans (Int.add_le_add hB (Int.ofNat_le.mpr hl1)) (by decide))
    have hb9 : ∀ b',b' ≤ b + 1 → b' ≤ B + ((L.length + 1 : Nat) : Int) := fun b' h => Int.le_trans h (Int.le_trans (Int.add_le_add_right hbB 1) (Int.le_of_eq (Int.add_assoc _ _ _)))
    simp only [List.range'_succ,List.map_cons]
    show optP (bindT [(3,false)] true (.int L.length) _) _
    have key : ∀ d : Int,((L ++ [d]).map AV.int).getD ((L.length : Int).toNat) .none = .int d := fun d => by
      rw [Int.toNat_natCast,getD_int (by simp)]
      congr 1
      rw [List.getD_eq_getElem?_getD,List.getElem?_append_right (Nat.le_refl _),Nat.sub_self]
      rfl
    by_cases h16 : L.length < 16
    · have hd : decide ((L.length : Int) < 16) = true := decide_eq_true ((Int.ofNat_lt (m := 16)).mpr h16)
      simp only [bit1,sek1,List.set_cons_succ,List.set_cons_zero,↓wq2,stepS,bodyS,↓sir8,↓wq1,↓ser14,↓ser2,↓evr2,↓ser11h,↓ser10,↓ser5,↓ser1,view,↓isr,↓ser4,↓vwi9,↓evr1,↓callH t605,Int.reduceToNat,seqQ,↓sir4,↓sir3,↓ser16,↓ser15,↓opr,List.getElem?_cons_succ,List.getElem?_cons_zero,↓smo1,↓cmr2,↓cmi3,hd,↓biv1,↓bii2,↓brCT,true_and]
      refine ⟨⟨by decide,by decide,by decide⟩,i,_,a,b,rfl,hG_pen hi,by decide,by decide,ha,hb,hbM,fun d a' b' h0 h1 ha' hb' hb2 => ?_⟩
      have h1 : d < 2 ^ 64 := h1
      have e := key d
      simp only [↓smr7,hG_setp hi,hG_l,repI,hd,↓brCT,snoc_int,hG_setl,true_and,↓idr1]
      refine ⟨by simp; exact Le.too 32 hl1 rfl,?_⟩
      simp only [hG_r,e,repI,set_int,hG_setr,true_and]
      refine ⟨⟨of_decide_eq_true rfl,by simp; exact Int.lt_succ _,by simp; exact Le.too 32 hl1 rfl⟩,⟨of_decide_eq_true rfl,by simp [regs_len]; exact (Int.ofNat_lt (m := 16)).mpr h16,by simp [regs_len]⟩,?_⟩
      have e2 : (regsOf L).set ((L.length : Int).toNat) d = regsOf (L ++ [d]) := by rw [Int.toNat_natCast]; exact regs_set h16
      simp only [e2,← xmm_stay (d := d) h16]
      exact ih (L.length + 1) (L ++ [d]) a' b' _ hk' (by simp) (hc.snoc h0 (by rw [if_pos h16]; exact h1)) ha' hb' (hb9 _ hb2)
    · have hd : decide ((L.length : Int) < 16) = false := decide_eq_false fun q => h16 ((Int.ofNat_lt (m := 16)).mp q)
      simp only [bit1,sek1,List.set_cons_succ,List.set_cons_zero,↓wq2,stepS,bodyS,↓sir8,↓wq1,↓ser14,↓ser2,↓evr2,↓ser11h,↓ser10,↓ser5,↓ser1,view,↓isr,↓ser4,↓vwi9,↓evr1,↓callH t605,Int.reduceToNat,seqQ,↓sir4,↓sir3,↓ser16,↓ser15,↓opr,List.getElem?_cons_succ,List.getElem?_cons_zero,↓smo1,↓cmr2,↓cmi3,hd,↓biv1,↓bii2,↓brCF,true_and]
      refine ⟨⟨by decide,by decide,by decide⟩,i,_,a,b,rfl,hG_pen hi,by decide,by decide,ha,hb,hbM,fun d a' b' h0 h1 ha' hb' hb2 => ?_⟩
      have h1 : d < 2 ^ 128 := h1
      have e := key d
      simp only [↓smr7,hG_setp hi,hG_l,repI,hd,↓brCF,snoc_int,hG_setl,true_and,↓idr1]
      refine ⟨by simp; exact Le.too 32 hl1 rfl,?_⟩
      have g16 := Nat.not_lt.mp h16
      have hx := xmm_len (L := L) hl1
      simp only [hG_x,e,repI,set_int,hG_setx,true_and]
      refine ⟨⟨of_decide_eq_true rfl,by simp; exact Int.lt_succ _,by simp; exact Le.too 32 hl1 rfl⟩,⟨Int.sub_nonneg_of_le ((Int.ofNat_le (m := 16)).mpr g16),by simp [hx]; exact Int.sub_right_lt_of_lt_add ((Int.ofNat_lt (m := 32)).mpr h32),by simp [hx]⟩,?_⟩
      have e2 : (xmmOf L).set ((L.length : Int) - 16).toNat d = xmmOf (L ++ [d]) := by
        rw [show ((L.length : Int) - 16).toNat = L.length - 16 from Int.toNat_sub L.length 16]; exact xmm_set g16 h32
      simp only [e2,← regs_stay (d := d) g16]
      exact ih (L.length + 1) (L ++ [d]) a' b' _ hk' (by simp) (hc.snoc h0 (by rw [if_neg h16]; exact h1)) ha' hb' (hb9 _ hb2)
inductive stateC (args : List AV) (H : MH) (Q : AV → MH → Prop) (X : Nat → MH → Prop) : Prop where
  | mk : ∀ i a b,(args = [.mu i]) → (H[i]? = some [.int a,.int b]) → (0 ≤ a) → (0 ≤ b) → (b ≤ 900000) → (∀ L a' b' va vb vc,L.length = 32 → Cells L → 0 ≤ a' → 0 ≤ b' → b' ≤ b + 32 → Q (.tup [stV H.length (H.length + 1) va vb vc,.mu (H.length + 2)]) (hG H i a' b' (L.take 16) (L.drop 16) L)) → stateC args H Q X
theorem state_wp (t605 : T 605 = some drawC) (t587 : T 587 = some stCon) (h : stateC args H Q X) : Body T lo_law_state ir_law_state args H Q X := by
  obtain ⟨i,a,b,rfl,hi,ha,hb,hbB,q⟩ := h
  have hil : i < H.length := (List.getElem?_eq_some_iff.mp hi).1
  refine ⟨rfl,?_⟩
  simp only [↓wq2,stepS,ir_law_state,↓sir2,↓wq1,↓ser18,↓evr2,↓ser11h,↓ser1,↓evr1,↓callH t587,↓ser19,List.length_nil,List.length_cons,Nat.reduceAdd,mapC,mapN,lo_law_state,Nat.reduceSub,List.replicate,List.cons_append,List.nil_append,seqQ,↓sir5,↓ser12,view,rv2,sea2,List.set_cons_succ,List.set_cons_zero,sea1,↓bfr11,↓opr]
  refine ⟨rfl,fun va vb vc => ?_⟩
  refine ⟨by decide,fun P I xs Vs h => stillN h,by decide,?_⟩
  have e1 : (H ++ [zeros,zeros] ++ [[]]) = hG H i a b (regsOf []) (xmmOf []) [] := by
    unfold hG
    have : H.set i [.int a,.int b] = H := by
      apply List.ext_getElem?
      intro k
      rw [List.getElem?_set]
      split
      · rename_i hk; subst hk; rw [hi]; first | done | simp [hil]
      · rfl
    rw [this]
    have : zeros = (List.replicate 16 (0 : Int)).map .int := by unfold zeros; simp
    simp [regsOf,xmmOf,this]
  have e2 : (H ++ [zeros,zeros]).length = H.length + 2 := by simp
  have e3 : Builtin.Range.rangeSize 0 32 1 = 32 := by decide
  rw [e1,e2]
  simp only [its_r,e3,Int.reduceToNat]
  rw [if_pos (by decide)]
  have e4 : (List.range (Int.toNat 32)).map (fun (q : Nat) => AV.int (0 + (q : Int) * 1)) = (List.range' 0 32).map fun (q : Nat) => AV.int q := by
    rw [show Int.toNat 32 = 32 from rfl,List.range_eq_range']
    refine List.map_congr_left fun q _ => ?_
    rw [Int.zero_add,Int.mul_one]
  simp only [↓opr]
  refine state_loop (X := X) t605 hil hbB (fun L a' b' z hl hc ha' hb' hb2 => ?_) 32 0 [] a b _ (by decide) rfl (fun k v e => by exact noneX e) ha hb (Int.le_of_eq (Int.add_zero b).symm)
  simp only [seqQ,↓wq2,stepS,↓sir7,↓wq1,↓ser18,↓evr2,↓ser2,List.getElem?_cons_succ,List.getElem?_cons_zero,↓evr1,List.length_cons,List.length_nil,Nat.reduceAdd]
  refine ⟨by decide,?_⟩
  have e5 : regsOf L = L.take 16 := by unfold regsOf; rw [hl]; simp
  have e6 : xmmOf L = L.drop 16 := by unfold xmmOf; rw [hl]; simp
  simp only [e5,e6]
  exact q L a' b' va vb vc hl hc ha' hb' hb2
end
noncomputable abbrev rowV (nm kd : Str) (n lo z : Int) : AV := .tup [.str nm,.str kd,.int n,.int lo,.int z]
noncomputable abbrev RowQ := Str × Str × Int × Int × Int
noncomputable abbrev RowQ.v (q : RowQ) : AV := rowV q.1 q.2.1 q.2.2.1 q.2.2.2.1 q.2.2.2.2
noncomputable def rowsQ : List RowQ :=
  let lows : List Str := ["al","cl","dl","bl","spl","bpl","sil","dil"]
  let stems : List Str := ["ax","cx","dx","bx","sp","bp","si","di"]
  ((lows.zip stems).zipIdx.map fun q => [((q.1.1,"gpr",(q.2 : Int),0,8) : RowQ),(q.1.2,"gpr",(q.2 : Int),0,16),("e" ++ q.1.2,"gpr",(q.2 : Int),0,32),("r" ++ q.1.2,"gpr",(q.2 : Int),0,64)]).flatten ++
  ((List.range 8 : List Nat).map fun (i : Nat) => [(("r" ++ textOf (8 + i) ++ "b","gpr",8 + (i : Int),0,8) : RowQ),("r" ++ textOf (8 + i) ++ "w","gpr",8 + (i : Int),0,16),("r" ++ textOf (8 + i) ++ "d","gpr",8 + (i : Int),0,32),("r" ++ textOf (8 + i) ++ "","gpr",8 + (i : Int),0,64)]).flatten ++
  (["ah","ch","dh","bh"] : List Str).zipIdx.map (fun q => ((q.1,"high",4 + (q.2 : Int),8,8) : RowQ)) ++
  (List.range 16 : List Nat).map fun (i : Nat) => (("xmm" ++ textOf i,"xmm",(i : Int),0,128) : RowQ)
noncomputable def rowsL : List AV := rowsQ.map RowQ.v
noncomputable def homeV (kd : Str) (n : Int) : Int := if kd = "high" then n - 4 else if kd = "xmm" then n + 16 else n
noncomputable def shapeB (q : RowQ) : Bool := (q.2.1 == "gpr" && decide (0 ≤ q.2.2.1) && decide (q.2.2.1 < 16) && q.2.2.2.1 == 0 && (q.2.2.2.2 == 8 || q.2.2.2.2 == 16 || q.2.2.2.2 == 32 || q.2.2.2.2 == 64)) || (q.2.1 == "high" && decide (4 ≤ q.2.2.1) && decide (q.2.2.1 < 8) && q.2.2.2.1 == 8 && q.2.2.2.2 == 8) || (q.2.1 == ("xmm" : Str) && decide (0 ≤ q.2.2.1) && decide (q.2.2.1 < 16) && q.2.2.2.1 == 0 && q.2.2.2.2 == 128)
noncomputable def wideN (h : Int) : Str := ((rowsQ.find? fun r => r.2.2.1 == h && r.2.2.2.2 == 64).map (·.1)).getD ""
theorem rows_find : rowsQ.map (fun q => runF 8 270 [.str q.1]) = rowsQ.map (fun q => .ok (regV q.1 q.2.1 q.2.2.1 q.2.2.2.2)) := by kernel_rfl
theorem rows_home : rowsQ.map (fun q => runF 8 624 [q.v]) = rowsQ.map (fun q => .ok (.int (homeV q.2.1 q.2.2.1))) := by kernel_rfl
theorem rows_shape : rowsQ.all shapeB = true := by kernel_rfl
theorem rows_whole : rowsQ.map (fun q => if q.2.1 == ("xmm" : Str) then ER.no else runF 8 284 [regV q.1 q.2.1 q.2.2.1 q.2.2.2.2]) = rowsQ.map (fun q => if q.2.1 == ("xmm" : Str) then ER.no else .ok (regV (wideN (homeV q.2.1 q.2.2.1)) "gpr" (homeV q.2.1 q.2.2.1) 64)) := by kernel_rfl
structure RowI (v : AV) (nm kd : Str) (n lo z : Int) : Prop where
  eq : v = rowV nm kd n lo z
  find : runF 8 270 [.str nm] = .ok (regV nm kd n z)
  home : runF 8 624 [v] = .ok (.int (homeV kd n))
  shape : (kd = "gpr" ∧ 0 ≤ n ∧ n < 16 ∧ lo = 0 ∧ (z = 8 ∨ z = 16 ∨ z = 32 ∨ z = 64)) ∨ (kd = "high" ∧ 4 ≤ n ∧ n < 8 ∧ lo = 8 ∧ z = 8) ∨ (kd = "xmm" ∧ 0 ≤ n ∧ n < 16 ∧ lo = 0 ∧ z = 128)
  whole : kd = "xmm" ∨ ∃ a b c,runF 8 284 [regV nm kd n z] = .ok (regV a b (homeV kd n) c)
theorem shape_is {q : RowQ} (h : shapeB q = true) : (q.2.1 = "gpr" ∧ 0 ≤ q.2.2.1 ∧ q.2.2.1 < 16 ∧ q.2.2.2.1 = 0 ∧ (q.2.2.2.2 = 8 ∨ q.2.2.2.2 = 16 ∨ q.2.2.2.2 = 32 ∨ q.2.2.2.2 = 64)) ∨ (q.2.1 = "high" ∧ 4 ≤ q.2.2.1 ∧ q.2.2.1 < 8 ∧ q.2.2.2.1 = 8 ∧ q.2.2.2.2 = 8) ∨ (q.2.1 = "xmm" ∧ 0 ≤ q.2.2.1 ∧ q.2.2.1 < 16 ∧ q.2.2.2.1 = 0 ∧ q.2.2.2.2 = 128) := by
  unfold shapeB at h
  simpa only [Bool.or_eq_true,Bool.and_eq_true,beq_iff_eq,decide_eq_true_eq,or_assoc,and_assoc] using h
theorem row_is {v : AV} (h : v ∈ rowsL) : ∃ nm kd n lo z,RowI v nm kd n lo z := by
  obtain ⟨q,hq,rfl⟩ := List.mem_map.mp h
  refine ⟨_,_,_,_,_,rfl,List.map_inj_left.mp rows_find q hq,List.map_inj_left.mp rows_home q hq,shape_is (List.all_eq_true.mp rows_shape q hq),?_⟩
  have hw := List.map_inj_left.mp rows_whole q hq
  by_cases hx : q.2.1 == ("xmm" : Str)
  · exact .inl (beq_iff_eq.mp hx)
  · rw [if_neg hx,if_neg hx] at hw
    exact .inr ⟨_,_,_,hw⟩
section
variable {T : Nat → Option Con} {args : List AV} {H : MH} {Q : AV → MH → Prop} {X : Nat → MH → Prop} {v v' : AV} {nm kd nm' kd' : Str} {n lo z n' lo' z' : Int}
theorem home_g : homeV "gpr" n = n := by unfold homeV; rw [if_neg (by decide),if_neg (by decide)]
theorem home_h : homeV "high" n = n - 4 := by unfold homeV; rw [if_pos rfl]
theorem home_x : homeV "xmm" n = n + 16 := by unfold homeV; rw [if_neg (by decide),if_pos rfl]
theorem RowI.hm (R : RowI v nm kd n lo z) : 0 ≤ homeV kd n ∧ homeV kd n < 32 ∧ 0 ≤ lo ∧ 8 ≤ z ∧ z ≤ 128 := by
  rcases R.shape with ⟨rfl,a,b,rfl,d⟩ | ⟨rfl,a,b,rfl,rfl⟩ | ⟨rfl,a,b,rfl,rfl⟩
  · rw [home_g]
    exact ⟨a,Int.lt_trans b (by decide),by decide,by rcases d with rfl | rfl | rfl | rfl <;> exact ⟨of_decide_eq_true rfl,of_decide_eq_true rfl⟩⟩
  · rw [home_h]
    exact ⟨Int.sub_nonneg_of_le a,Int.lt_of_le_of_lt (Int.sub_le_self n (by decide)) (Int.lt_trans b (by decide)),by decide,by decide,by decide⟩
  · rw [home_x]
    exact ⟨Int.add_nonneg a (by decide),Int.add_lt_add_right b 16,by decide,by decide,by decide⟩
theorem RowI.lo8 (R : RowI v nm kd n lo z) : lo ≤ 8 := by
  rcases R.shape with ⟨_,_,_,h,_⟩ | ⟨_,_,_,h,_⟩ | ⟨_,_,_,h,_⟩ <;> rw [h] <;> decide
theorem RowI.hlt (R : RowI v nm kd n lo z) (k : ¬ kd = "xmm") : homeV kd n < 16 := by
  rcases R.shape with ⟨rfl,a,b,_⟩ | ⟨rfl,a,b,_⟩ | h
  · rw [home_g]; exact b
  · rw [home_h]; exact Int.lt_of_le_of_lt (Int.sub_le_self n (by decide)) (Int.lt_trans b (by decide))
  · exact absurd h.1 k
theorem half_up (x : Int) : (2 * x - 1) / 2 + 1 = x := by
  rw [show 2 * x - 1 = 1 + (x - 1) * 2 by lia,Int.add_mul_ediv_right _ _ (by decide)]
  show 0 + (x - 1) + 1 = x
  rw [Int.zero_add,Int.sub_add_cancel]
theorem its_1 {n : Nat} (h : n ≤ 100000) : itemsOf (.rng 0 n 1) = some ((List.range n).map fun (i : Nat) => AV.int (0 + (i : Int) * 1)) := by
  have e : (Builtin.Range.rangeSize 0 n 1).toNat = n := by
    unfold Builtin.Range.rangeSize
    rw [if_pos (by decide)]
    by_cases k : 0 < (n : Int)
    · rw [if_pos k,Int.sub_zero,Int.ediv_one,Int.sub_add_cancel]; rfl
    · rw [if_neg k]; exact (Nat.eq_zero_of_not_pos fun q => k (Int.ofNat_lt.mpr q)).symm
  rw [its_r,if_pos ⟨by decide,by decide,by decide,by decide,Int.le_trans (by decide) (Int.natCast_nonneg n),Int.ofNat_le.mpr (Le.too 100000 h rfl)⟩,e]
theorem its_2 {n : Nat} (h : n ≤ 100000) : itemsOf (.rng 0 ((2 * n : Nat) : Int) 2) = some ((List.range n).map fun (i : Nat) => AV.int (0 + (i : Int) * 2)) := by
  have e : (Builtin.Range.rangeSize 0 ((2 * n : Nat) : Int) 2).toNat = n := by
    unfold Builtin.Range.rangeSize
    rw [if_pos (by decide)]
    by_cases k : 0 < ((2 * n : Nat) : Int)
    · rw [if_pos k,Int.sub_zero]; exact congrArg Int.toNat (half_up n)
    · rw [if_neg k]; exact (Nat.eq_zero_of_not_pos fun q => k (Int.ofNat_lt.mpr (Nat.mul_pos (by decide) q))).symm
  rw [its_r,if_pos ⟨by decide,by decide,by decide,by decide,Int.le_trans (by decide) (Int.natCast_nonneg _),Int.ofNat_le.mpr (Le.too 200000 (Nat.mul_le_mul_left 2 h) rfl)⟩,e]
noncomputable def meetB (kd : Str) (n lo z : Int) (kd' : Str) (n' lo' z' : Int) : Bool := decide (homeV kd n = homeV kd' n') && (decide (lo < lo' + z') && decide (lo' < lo + z))
inductive meetC (args : List AV) (H : MH) (Q : AV → MH → Prop) (X : Nat → MH → Prop) : Prop where
  | mk : ∀ v v' nm kd n lo z nm' kd' n' lo' z',(args = [v,v']) → (RowI v nm kd n lo z) → (RowI v' nm' kd' n' lo' z') → (Q (.bool (meetB kd n lo z kd' n' lo' z')) H) → meetC args H Q X
theorem meet_wp (t624 : T 624 = some (evCon 8 624)) (h : meetC args H Q X) : Body T lo_law_meet ir_law_meet args H Q X := by
  obtain ⟨v,v',nm,kd,n,lo,z,nm',kd',n',lo',z',rfl,R,R',q⟩ := h
  refine ⟨rfl,?_⟩
  have h1 := R.home
  have h2 := R'.home
  cases R.eq
  cases R'.eq
  simp only [ir_law_meet,mapC,mapN,lo_law_meet,List.length_cons,List.length_nil,Nat.reduceAdd,Nat.reduceSub,List.replicate,List.cons_append,List.nil_append,↓wq2,↓stepS,↓sir7,↓seqQ,↓wq1,↓ser8,↓anr2,↓anr1,↓ser5,view,↓isr,↓ser4,↓ser16,↓ser1,↓ser2,List.getElem?_cons_zero,↓idr2,Int.reduceToNat,gdS,gdZ,↓biv1,↓bii1,true_and,List.getElem?_cons_succ,↓cmr2,↓cmi3,↓opr,↓ser11,t624,evCon,ER.holds,↓evr2,↓evr1,h2,h1,↓cmi1]
  refine brB_of (fun e => ⟨⟨by decide,by decide,by decide⟩,⟨of_decide_eq_true rfl,of_decide_eq_true rfl,of_decide_eq_true rfl⟩,⟨by decide,of_decide_eq_true rfl,of_decide_eq_true rfl⟩,brB_of (fun e2 => ⟨⟨of_decide_eq_true rfl,of_decide_eq_true rfl,of_decide_eq_true rfl⟩,⟨of_decide_eq_true rfl,of_decide_eq_true rfl,of_decide_eq_true rfl⟩,⟨of_decide_eq_true rfl,of_decide_eq_true rfl,of_decide_eq_true rfl⟩,?_⟩) fun e2 => ?_⟩) fun e => ?_
  · have hm : meetB kd n lo z kd' n' lo' z' = decide (lo' < lo + z) := by unfold meetB; rw [e,e2]; rfl
    rw [hm] at q; exact q
  · have hm : meetB kd n lo z kd' n' lo' z' = false := by unfold meetB; rw [e,e2]; rfl
    rw [hm] at q; exact q
  · have hm : meetB kd n lo z kd' n' lo' z' = false := by unfold meetB; rw [e]; rfl
    rw [hm] at q; exact q
theorem anyG (kd : Str) : (([("gpr" : Str),"high"]).any fun x => x == kd) = (decide (kd = "gpr") || decide (kd = "high")) := by
  simp only [List.any_cons,List.any_nil,Bool.or_false,opr,isr]
  congr 1
  · rw [Bool.eq_iff_iff,beq_iff_eq,decide_eq_true_eq]; exact eq_comm
  · rw [Bool.eq_iff_iff,beq_iff_eq,decide_eq_true_eq]; exact eq_comm
inductive ovC (args : List AV) (H : MH) (Q : AV → MH → Prop) (X : Nat → MH → Prop) : Prop where
  | mk : ∀ v v' nm kd n lo z nm' kd' n' lo' z',(args = [regV nm kd n z,regV nm' kd' n' z']) → (RowI v nm kd n lo z) → (RowI v' nm' kd' n' lo' z') → (Q (.bool (meetB kd n lo z kd' n' lo' z')) H) → ovC args H Q X
noncomputable def ovS (kd : Str) (z : Int) (kd' : Str) (z' : Int) : Bool := if z = 8 then (if z' = 8 then decide (kd = kd') else true) else true
theorem ov_br {kd kd' : Str} {z z' : Int} {H : MH} {Q : AV → MH → Prop} (q : Q (.bool (ovS kd z kd' z')) H) : brB (decide (z = 8)) (brB (decide (z' = 8)) (Q (.bool (decide (kd = kd'))) H) (Q (.bool true) H)) (Q (.bool true) H) := by
  unfold ovS at q
  by_cases h : z = 8
  · rw [if_pos h] at q
    rw [decide_eq_true h,brT]
    by_cases h' : z' = 8
    · rw [if_pos h'] at q
      rw [decide_eq_true h',brT]; exact q
    · rw [if_neg h'] at q
      rw [decide_eq_false h',brF]; exact q
  · rw [if_neg h] at q
    rw [decide_eq_false h,brF]; exact q
theorem ov_gg {z z' : Int} (h : 0 < z) (h' : 0 < z') : (decide ((0 : Int) < 0 + z') && decide ((0 : Int) < 0 + z)) = ovS "gpr" z "gpr" z' := by
  rw [decide_eq_true (by rw [Int.zero_add]; exact h'),decide_eq_true (by rw [Int.zero_add]; exact h)]
  unfold ovS
  rw [decide_eq_true rfl]
  split <;> simp
theorem ov_gh {z : Int} (h : z = 8 ∨ 8 < z) : (decide ((0 : Int) < 8 + 8) && decide ((8 : Int) < 0 + z)) = ovS "gpr" z "high" 8 := by
  unfold ovS
  rcases h with rfl | h
  · decide
  · rw [if_neg (by omega),decide_eq_true (by omega : (8 : Int) < 0 + z)]; rfl
theorem ov_hg {z : Int} (h : z = 8 ∨ 8 < z) : (decide ((8 : Int) < 0 + z) && decide ((0 : Int) < 8 + 8)) = ovS "high" 8 "gpr" z := by
  unfold ovS
  rcases h with rfl | h
  · decide
  · rw [if_pos rfl,if_neg (by omega),decide_eq_true (by omega : (8 : Int) < 0 + z)]; rfl
theorem eight {z : Int} (h : 8 ≤ z) : z = 8 ∨ 8 < z := (Int.lt_or_eq_of_le h).elim .inr fun e => .inl e.symm
theorem pos8 {z : Int} (h : 8 ≤ z) : 0 < z := Int.lt_of_lt_of_le (by decide) h
theorem ov_same {v v' : AV} {nm kd nm' kd' : Str} {n lo z n' lo' z' : Int} (R : RowI v nm kd n lo z) (R' : RowI v' nm' kd' n' lo' z') (k1 : kd = "gpr" ∨ kd = "high") (k2 : kd' = "gpr" ∨ kd' = "high") (he : homeV kd n = homeV kd' n') : meetB kd n lo z kd' n' lo' z' = ovS kd z kd' z' := by
  unfold meetB
  simp only [decide_eq_true he,Bool.true_and]
  have S := R.shape
  have S' := R'.shape
  have m := R.hm.2.2.2.1
  have m' := R'.hm.2.2.2.1
  clear R R' he
  rcases S with ⟨rfl,a1,a2,rfl,a4⟩ | ⟨rfl,a1,a2,rfl,rfl⟩ | ⟨rfl,_⟩
  · rcases S' with ⟨rfl,b1,b2,rfl,b4⟩ | ⟨rfl,b1,b2,rfl,rfl⟩ | ⟨rfl,_⟩
    · exact ov_gg (pos8 m) (pos8 m')
    · exact ov_gh (eight m)
    · exact absurd k2 (by decide)
  · rcases S' with ⟨rfl,b1,b2,rfl,b4⟩ | ⟨rfl,b1,b2,rfl,rfl⟩ | ⟨rfl,_⟩
    · exact ov_hg (eight m')
    · decide
    · exact absurd k2 (by decide)
  · exact absurd k1 (by decide)
theorem ov_wp (t284 : T 284 = some (evCon 8 284)) (h : ovC args H Q X) : Body T lo_overlaps ir_overlaps args H Q X := by
  obtain ⟨v,v',nm,kd,n,lo,z,nm',kd',n',lo',z',rfl,R,R',q⟩ := h
  refine ⟨rfl,?_⟩
  have sg : strsOf [AV.str "gpr",AV.str "high"] = some [("gpr" : Str),"high"] := rfl
  simp only [↓wq2,stepS,ir_overlaps,↓sir4,↓wq1,↓ser8,↓anr2,↓ser5,↓ser15,↓ser2,mapC,mapN,lo_overlaps,List.length_cons,List.length_nil,Nat.reduceAdd,Nat.reduceSub,List.replicate,List.cons_append,List.nil_append,List.getElem?_cons_zero,List.getElem?_cons_succ,↓ser18,↓evr2,↓ser1,↓evr1,view,↓isr,↓anr1,↓ser11h,↓sir7,seqQ,↓vci1,↓vcs1,true_and,↓brCF,↓cmr7,sg,↓ino1,↓opr,anyG]
  have hz := R.hm
  have hz' := R'.hm
  refine ⟨by decide,?_⟩
  by_cases k1 : kd = "gpr" ∨ kd = "high"
  · have e1 : (decide (kd = "gpr") || decide (kd = "high")) = true := by simpa using k1
    rw [e1,brT]
    refine ⟨by decide,?_⟩
    by_cases k2 : kd' = "gpr" ∨ kd' = "high"
    · have e2 : (decide (kd' = "gpr") || decide (kd' = "high")) = true := by simpa using k2
      rw [e2,brT]
      obtain ⟨a,b,c,w1⟩ : ∃ a b c,runF 8 284 [regV nm kd n z] = .ok (regV a b (homeV kd n) c) := by
        rcases R.whole with h | h
        · subst h; exact absurd k1 (by decide)
        · exact h
      obtain ⟨a',b',c',w2⟩ : ∃ a b c,runF 8 284 [regV nm' kd' n' z'] = .ok (regV a b (homeV kd' n') c) := by
        rcases R'.whole with h | h
        · subst h; exact absurd k2 (by decide)
        · exact h
      simp only [↓callR t284 w1,List.getElem?_cons_succ,List.getElem?_cons_zero,↓callR t284 w2,↓cmr2,↓cmi2,↓opr,true_and]
      refine brB_of (fun e => ?_) fun e => ?_
      · have hne : homeV kd n ≠ homeV kd' n' := by simpa using e
        have : meetB kd n lo z kd' n' lo' z' = false := by unfold meetB; rw [decide_eq_false hne]; rfl
        rw [this] at q; exact q
      · have he : homeV kd n = homeV kd' n' := by simpa using e
        rw [ov_same R R' k1 k2 he] at q
        exact ov_br q
    · have e2 : (decide (kd' = "gpr") || decide (kd' = "high")) = false := by simpa using k2
      rw [e2,brF]
      obtain ⟨rfl,b1,b2,b3,b4⟩ : kd' = "xmm" ∧ 0 ≤ n' ∧ n' < 16 ∧ lo' = 0 ∧ z' = 128 := by
        rcases R'.shape with h | h | h
        · exact absurd (.inl h.1) k2
        · exact absurd (.inr h.1) k2
        · exact h
      have hk : ¬ kd = "xmm" := fun h => by subst h; exact absurd k1 (by decide)
      have : meetB kd n lo z "xmm" n' lo' z' = false := by
        unfold meetB
        rw [decide_eq_false]; rfl
        rw [home_x]
        exact Int.ne_of_lt (Int.lt_of_lt_of_le (R.hlt hk) (Int.le_add_of_nonneg_left b1))
      rw [this] at q
      simp only [decide_eq_false hk,↓brCF]
      exact q
  · have e1 : (decide (kd = "gpr") || decide (kd = "high")) = false := by simpa using k1
    rw [e1,brF]
    obtain ⟨rfl,b1,b2,b3,b4⟩ : kd = "xmm" ∧ 0 ≤ n ∧ n < 16 ∧ lo = 0 ∧ z = 128 := by
      rcases R.shape with h | h | h
      · exact absurd (.inl h.1) k1
      · exact absurd (.inr h.1) k1
      · exact h
    by_cases hk : ("xmm" : Str) = kd'
    · subst hk
      rw [decide_eq_true rfl,brT]
      obtain ⟨_,c1,c2,c3,c4⟩ : ("xmm" : Str) = "xmm" ∧ 0 ≤ n' ∧ n' < 16 ∧ lo' = 0 ∧ z' = 128 := by
        rcases R'.shape with h | h | h
        · exact absurd h.1 (by decide)
        · exact absurd h.1 (by decide)
        · exact h
      have : meetB "xmm" n lo z "xmm" n' lo' z' = decide (n = n') := by
        unfold meetB
        simp only [home_x,b3,b4,c3,c4]
        simp
      rw [this] at q
      exact q
    · simp only [decide_eq_false hk,brF]
      have : meetB "xmm" n lo z kd' n' lo' z' = false := by
        unfold meetB
        rw [decide_eq_false]; rfl
        rw [home_x]
        exact Int.ne_of_gt (Int.lt_of_lt_of_le (R'.hlt fun e => hk e.symm) (Int.le_add_of_nonneg_left b1))
      rw [this] at q
      exact q
end
noncomputable def seenV (V lo z : Int) : Int := (V.fdiv (2 ^ lo.toNat)).fmod (2 ^ z.toNat)
noncomputable def putV (kd : Str) (V z w : Int) : Int := if kd = "gpr" then joinV V (w % 2 ^ z.toNat) z else if kd = "high" then V + (w % 2 ^ z.toNat - V.fdiv 256 % 256) * 256 else w % 2 ^ z.toNat
theorem p0 : (2 : Int) ^ Int.toNat 0 = 1 := by decide
theorem p8 : (2 : Int) ^ Int.toNat 8 = 256 := by decide
theorem p16 : (2 : Int) ^ Int.toNat 16 = 65536 := by decide
theorem p32 : (2 : Int) ^ Int.toNat 32 = 4294967296 := by decide
theorem p64 : (2 : Int) ^ Int.toNat 64 = 18446744073709551616 := by decide
theorem p128 : (2 : Int) ^ Int.toNat 128 = 340282366920938463463374607431768211456 := by decide
theorem fd (V : Int) {k : Int} (h : 0 ≤ k) : V.fdiv k = V / k := Int.fdiv_eq_ediv_of_nonneg _ h
theorem fm (V : Int) {k : Int} (h : 0 ≤ k) : V.fmod k = V % k := Int.fmod_eq_emod_of_nonneg _ h
theorem seen_gpr {V z : Int} : seenV V 0 z = V % 2 ^ z.toNat := by
  unfold seenV
  rw [p0,fd _ (by decide),fm _ (Int.le_of_lt (Int.pow_pos (by decide))),Int.ediv_one]
theorem seen_high {V : Int} : seenV V 8 8 = V.fdiv 256 % 256 := by
  unfold seenV
  rw [p8,fm _ (by decide)]
noncomputable def Shape (kd : Str) (n lo z : Int) : Prop := (kd = "gpr" ∧ 0 ≤ n ∧ n < 16 ∧ lo = 0 ∧ (z = 8 ∨ z = 16 ∨ z = 32 ∨ z = 64)) ∨ (kd = "high" ∧ 4 ≤ n ∧ n < 8 ∧ lo = 8 ∧ z = 8) ∨ (kd = "xmm" ∧ 0 ≤ n ∧ n < 16 ∧ lo = 0 ∧ z = 128)
noncomputable def lim (kd : Str) : Int := if kd = "xmm" then 340282366920938463463374607431768211456 else 18446744073709551616
theorem put_gpr {V z w : Int} : putV "gpr" V z w = joinV V (w % 2 ^ z.toNat) z := by unfold putV; rw [if_pos rfl]
theorem put_high {V z w : Int} : putV "high" V z w = V + (w % 2 ^ z.toNat - V.fdiv 256 % 256) * 256 := by unfold putV; rw [if_neg (by decide),if_pos rfl]
theorem put_xmm {V z w : Int} : putV "xmm" V z w = w % 2 ^ z.toNat := by unfold putV; rw [if_neg (by decide),if_neg (by decide)]
theorem lim_g : lim "gpr" = 18446744073709551616 := by decide
theorem lim_h : lim "high" = 18446744073709551616 := by decide
theorem lim_x : lim "xmm" = 340282366920938463463374607431768211456 := by decide
theorem put_g8 {V w : Int} : putV "gpr" V 8 w = V - V % 256 + w % 256 := by rw [put_gpr,p8]; unfold joinV; rw [if_neg (by decide),p8]
theorem put_g16 {V w : Int} : putV "gpr" V 16 w = V - V % 65536 + w % 65536 := by rw [put_gpr,p16]; unfold joinV; rw [if_neg (by decide),p16]
theorem put_g32 {V w : Int} : putV "gpr" V 32 w = w % 4294967296 := by rw [put_gpr,p32]; unfold joinV; rw [if_pos (by decide)]
theorem put_g64 {V w : Int} : putV "gpr" V 64 w = w % 18446744073709551616 := by rw [put_gpr,p64]; unfold joinV; rw [if_pos (by decide)]
theorem put_h {V w : Int} : putV "high" V 8 w = V + (w % 256 - V / 256 % 256) * 256 := by rw [put_high,p8,fd _ (by decide)]
theorem put_x {V w : Int} : putV "xmm" V 128 w = w % 340282366920938463463374607431768211456 := by rw [put_xmm,p128]
theorem upper {V m : Int} : V - V % m = m * (V / m) := by
  have e := Int.mul_ediv_add_emod V m
  omega
theorem in_mod {w m B : Int} (h : 0 < m) (hB : m ≤ B) : 0 ≤ w % m ∧ w % m < B := ⟨Int.emod_nonneg _ (Int.ne_of_gt h),Int.lt_of_lt_of_le (Int.emod_lt_of_pos _ h) hB⟩
theorem in_low {V r m c : Int} (hm : 0 < m) (h0 : 0 ≤ V) (h1 : V < c * m) (r0 : 0 ≤ r) (r1 : r < m) : 0 ≤ V - V % m + r ∧ V - V % m + r < c * m := by
  rw [upper]
  have q0 : 0 ≤ m * (V / m) := Int.mul_nonneg (Int.le_of_lt hm) (Int.ediv_nonneg h0 (Int.le_of_lt hm))
  have q1 : m * (V / m + 1) ≤ m * c := Int.mul_le_mul_of_nonneg_left (Int.ediv_lt_of_lt_mul hm h1) (Int.le_of_lt hm)
  simp only [Int.mul_add,Int.mul_one,Int.mul_comm m c] at q1
  exact ⟨Int.add_nonneg q0 r0,Int.lt_of_lt_of_le (Int.add_lt_add_left r1 _) q1⟩
theorem seen_low {V w m : Int} : (V - V % m + w % m) % m = w % m := by rw [upper,Int.mul_add_emod_self_left,Int.emod_emod]
theorem due_low {V w x m : Int} : V - V % m + w % m - (V - V % m + w % m) % m + x % m = V / m * m + x % m * 1 + V % 1 := by
  rw [seen_low,Int.add_sub_cancel,upper,Int.mul_one,Int.emod_one,Int.add_zero,Int.mul_comm]
theorem due_mod {V x m : Int} : x % m = 0 + x % m * 1 + V % 1 := by rw [Int.zero_add,Int.mul_one,Int.emod_one,Int.add_zero]
theorem seen_hi {V r : Int} (h0 : 0 ≤ r) (h1 : r < 256) : (V + (r - V / 256 % 256) * 256) / 256 % 256 = r := by
  rw [Int.add_mul_ediv_right _ _ (by decide)]
  omega
theorem split_hi {V : Int} : V - V / 256 % 256 * 256 = V / 65536 * 65536 + V % 256 := by
  have e1 := Int.mul_ediv_add_emod V 256
  have e2 := Int.mul_ediv_add_emod (V / 256) 256
  have e3 : V / 65536 = V / 256 / 256 := (Int.ediv_ediv_of_nonneg (x := V) (y := 256) (z := 256) (by decide)).symm
  rw [e3]
  generalize V / 256 / 256 = a at *
  generalize V / 256 % 256 = b at *
  generalize V % 256 = c at *
  rw [← e2] at e1
  omega
theorem in_hi {V r : Int} (h0 : 0 ≤ V) (h1 : V < 281474976710656 * 65536) (r0 : 0 ≤ r) (r1 : r < 256) : 0 ≤ V + (r - V / 256 % 256) * 256 ∧ V + (r - V / 256 % 256) * 256 < 281474976710656 * 65536 := by
  have e : V + (r - V / 256 % 256) * 256 = V - V % 65536 + (r * 256 + V % 256) := by
    have e1 := @split_hi V
    have e2 := @upper V 65536
    generalize V / 256 % 256 = a at *
    generalize V / 65536 = b at *
    generalize V % 65536 = c at *
    generalize V % 256 = d at *
    omega
  rw [e]
  exact in_low (by decide) h0 h1 (by omega) (by omega)
theorem put_in {kd : Str} {n lo z V w : Int} (S : Shape kd n lo z) (h0 : 0 ≤ V) (h1 : V < lim kd) : 0 ≤ putV kd V z w ∧ putV kd V z w < lim kd := by
  have m8 : (0 : Int) < 256 := by decide
  have m16 : (0 : Int) < 65536 := by decide
  rcases S with ⟨rfl,_,_,_,rfl | rfl | rfl | rfl⟩ | ⟨rfl,_,_,_,rfl⟩ | ⟨rfl,_,_,_,rfl⟩
  · rw [put_g8]; exact in_low (c := 72057594037927936) m8 h0 h1 (Int.emod_nonneg _ (Int.ne_of_gt m8)) (Int.emod_lt_of_pos _ m8)
  · rw [put_g16]; exact in_low (c := 281474976710656) m16 h0 h1 (Int.emod_nonneg _ (Int.ne_of_gt m16)) (Int.emod_lt_of_pos _ m16)
  · rw [put_g32]; exact in_mod (by decide) (by decide)
  · rw [put_g64]; exact in_mod (by decide) (by decide)
  · rw [put_h]; exact in_hi h0 h1 (Int.emod_nonneg _ (Int.ne_of_gt m8)) (Int.emod_lt_of_pos _ m8)
  · rw [put_x]; exact in_mod (by decide) (by decide)
theorem put_seen {kd : Str} {n lo z V w : Int} (S : Shape kd n lo z) (h0 : 0 ≤ V) (h1 : V < lim kd) : seenV (putV kd V z w) lo z = w.fmod (2 ^ z.toNat) := by
  clear h0 h1
  rcases S with ⟨rfl,_,_,rfl,rfl | rfl | rfl | rfl⟩ | ⟨rfl,_,_,rfl,rfl⟩ | ⟨rfl,_,_,rfl,rfl⟩
  · rw [seen_gpr,put_g8,p8,fm _ (by decide)]; exact seen_low
  · rw [seen_gpr,put_g16,p16,fm _ (by decide)]; exact seen_low
  · rw [seen_gpr,put_g32,p32,fm _ (by decide)]; exact Int.emod_emod ..
  · rw [seen_gpr,put_g64,p64,fm _ (by decide)]; exact Int.emod_emod ..
  · rw [seen_high,put_h,p8,fd _ (by decide),fm _ (by decide)]; exact seen_hi (Int.emod_nonneg _ (by decide)) (Int.emod_lt_of_pos _ (by decide))
  · rw [seen_gpr,put_x,p128,fm _ (by decide)]; exact Int.emod_emod ..
theorem due_hi {V w x : Int} (w0 : 0 ≤ w) (w1 : w < 256) : V + (w - V / 256 % 256) * 256 + (x - (V + (w - V / 256 % 256) * 256) / 256 % 256) * 256 = V / 65536 * 65536 + x * 256 + V % 256 := by
  rw [seen_hi w0 w1]
  have e1 := @split_hi V
  clear w0 w1
  generalize V / 256 % 256 = a at *
  generalize V / 65536 = b at *
  generalize V % 256 = d at *
  omega
theorem put_due {kd : Str} {n lo z V w x : Int} (S : Shape kd n lo z) (h0 : 0 ≤ V) (h1 : V < lim kd) :
    putV kd (putV kd V z w) z x = (if 32 ≤ z then 0 else V.fdiv (2 ^ (lo + z).toNat) * 2 ^ (lo + z).toNat) + x.fmod (2 ^ z.toNat) * 2 ^ lo.toNat + V.fmod (2 ^ lo.toNat) := by
  clear h0 h1
  rcases S with ⟨rfl,_,_,rfl,rfl | rfl | rfl | rfl⟩ | ⟨rfl,_,_,rfl,rfl⟩ | ⟨rfl,_,_,rfl,rfl⟩
  · rw [if_neg (by decide),put_g8,put_g8,show (0 : Int) + 8 = 8 from rfl,p8,p0,fd _ (by decide),fm _ (by decide),fm _ (by decide)]; exact due_low
  · rw [if_neg (by decide),put_g16,put_g16,show (0 : Int) + 16 = 16 from rfl,p16,p0,fd _ (by decide),fm _ (by decide),fm _ (by decide)]; exact due_low
  · rw [if_pos (by decide),put_g32,p32,p0,fm _ (by decide),fm _ (by decide)]; exact due_mod
  · rw [if_pos (by decide),put_g64,p64,p0,fm _ (by decide),fm _ (by decide)]; exact due_mod
  · rw [if_neg (by decide),put_h,put_h,show (8 : Int) + 8 = 16 from rfl,p16,p8,fd _ (by decide),fm _ (by decide),fm _ (by decide)]; exact due_hi (Int.emod_nonneg _ (by decide)) (Int.emod_lt_of_pos _ (by decide))
  · rw [if_pos (by decide),put_x,p128,p0,fm _ (by decide),fm _ (by decide)]; exact due_mod
theorem of_mod2 {a b : Int} (m : Int) (h : a % 2 ≠ b % 2) : a % (2 * m) ≠ b % (2 * m) := fun e => h (by
  have e2 : a % (2 * m) % 2 = b % (2 * m) % 2 := congrArg (· % 2) e
  rwa [Int.emod_emod_of_dvd _ (Int.dvd_mul_right 2 m),Int.emod_emod_of_dvd _ (Int.dvd_mul_right 2 m)] at e2)
theorem bit8 (a : Int) : a / 256 % 2 = a % 512 / 256 := by
  have n0 := Int.emod_nonneg a (show (512 : Int) ≠ 0 by decide)
  have n1 := Int.emod_lt_of_pos a (show (0 : Int) < 512 by decide)
  have e : a = a % 512 + 2 * (a / 512) * 256 := by
    have e := Int.mul_ediv_add_emod a 512
    rw [Int.mul_comm 2,Int.mul_assoc,Int.mul_comm _ (2 * 256),Int.add_comm]; exact e.symm
  have e2 : a / 256 = a % 512 / 256 + 2 * (a / 512) := (congrArg (· / 256) e).trans (Int.add_mul_ediv_right _ _ (by decide))
  rw [e2,Int.add_mul_emod_self_left]
  exact Int.emod_eq_of_lt (Int.ediv_nonneg n0 (by decide)) (Int.ediv_lt_of_lt_mul (by decide) n1)
theorem of_div2 {a b : Int} (m : Int) (h : a / 256 % 2 ≠ b / 256 % 2) : a % (512 * m) ≠ b % (512 * m) := fun e => h (by
  have e2 : a % (512 * m) % 512 = b % (512 * m) % 512 := congrArg (· % 512) e
  rw [Int.emod_emod_of_dvd _ (Int.dvd_mul_right 512 m),Int.emod_emod_of_dvd _ (Int.dvd_mul_right 512 m)] at e2
  rw [bit8,bit8,e2])
theorem bit0_ne {A B x : Int} : (2 * A - 1 - x) % 2 ≠ (2 * B + x) % 2 := by omega
theorem c512 {A x : Int} : (512 * A - 1 - x) % 512 = 511 - x % 512 := by omega
theorem half_ne {y : Int} (h0 : 0 ≤ y) (h1 : y < 512) : (511 - y) / 256 ≠ y / 256 := by omega
theorem bit8_ne {A B x : Int} : (512 * A - 1 - x) / 256 % 2 ≠ (512 * B + x) / 256 % 2 := by
  simp only [bit8,bit8,c512,Int.mul_add_emod_self_left]
  exact half_ne (Int.emod_nonneg _ (by decide)) (Int.emod_lt_of_pos _ (by decide))
theorem turned {V m : Int} (h : 0 < m) : (m - 1 - V % m) % m = m - 1 - V % m := by
  have a := Int.emod_nonneg V (Int.ne_of_gt h)
  have b := Int.emod_lt_of_pos V h
  exact Int.emod_eq_of_lt (by omega) (by omega)
theorem parts {V k c : Int} : V = c * (k * (V / (c * k))) + V % (c * k) := by
  rw [← Int.mul_assoc]; exact (Int.mul_ediv_add_emod V (c * k)).symm
theorem turn_lo {V k c : Int} : V - V % (c * k) + (c * k - 1 - V % (c * k)) = c * (k * (V / (c * k)) + k) - 1 - V % (c * k) := by
  rw [upper,Int.mul_assoc,Int.mul_add]; omega
theorem flip_lo0 {V k : Int} (h : 0 < 2 * k) : (V - V % (2 * k) + (2 * k - 1 - V % (2 * k)) % (2 * k)) % 2 ≠ V % 2 := fun e => by
  rw [turned h,turn_lo] at e
  exact bit0_ne (e.trans (congrArg (· % 2) (@parts V k 2)))
theorem flip_all0 {V k : Int} (h : 0 < 2 * k) : (2 * k - 1 - V % (2 * k)) % (2 * k) % 2 ≠ V % 2 := fun e => by
  rw [turned h] at e
  exact bit0_ne (e.trans (congrArg (· % 2) (@parts V k 2)))
theorem flip_lo8 {V k : Int} (h : 0 < 512 * k) : (V - V % (512 * k) + (512 * k - 1 - V % (512 * k)) % (512 * k)) / 256 % 2 ≠ V / 256 % 2 := fun e => by
  rw [turned h,turn_lo] at e
  exact bit8_ne (e.trans (congrArg (· / 256 % 2) (@parts V k 512)))
theorem flip_all8 {V k : Int} (h : 0 < 512 * k) : (512 * k - 1 - V % (512 * k)) % (512 * k) / 256 % 2 ≠ V / 256 % 2 := fun e => by
  rw [turned h] at e
  exact bit8_ne (e.trans (congrArg (· / 256 % 2) (@parts V k 512)))
theorem flip0 {V z : Int} (hz : z = 8 ∨ z = 16 ∨ z = 32 ∨ z = 64) : putV "gpr" V z (2 ^ z.toNat - 1 - V % 2 ^ z.toNat) % 2 ≠ V % 2 := by
  rcases hz with rfl | rfl | rfl | rfl
  · rw [put_g8,p8]; exact flip_lo0 (k := 128) (by decide)
  · rw [put_g16,p16]; exact flip_lo0 (k := 32768) (by decide)
  · rw [put_g32,p32]; exact flip_all0 (k := 2147483648) (by decide)
  · rw [put_g64,p64]; exact flip_all0 (k := 9223372036854775808) (by decide)
theorem flip8 {V z : Int} (hz : z = 16 ∨ z = 32 ∨ z = 64) : putV "gpr" V z (2 ^ z.toNat - 1 - V % 2 ^ z.toNat) / 256 % 2 ≠ V / 256 % 2 := by
  rcases hz with rfl | rfl | rfl
  · rw [put_g16,p16]; exact flip_lo8 (k := 128) (by decide)
  · rw [put_g32,p32]; exact flip_all8 (k := 8388608) (by decide)
  · rw [put_g64,p64]; exact flip_all8 (k := 36028797018963968) (by decide)
theorem flipH {V : Int} : (V + ((256 - 1 - V / 256 % 256) % 256 - V / 256 % 256) * 256) / 256 % 2 ≠ V / 256 % 2 := by
  rw [Int.add_mul_ediv_right _ _ (by decide)]
  generalize V / 256 = u
  omega
theorem not_t {p : Prop} [Decidable p] {b : Bool} (a1 : b = true) (a2 : ¬ p) : (!decide p) = b := by rw [decide_eq_false a2,a1]; rfl
theorem not_f' {p : Prop} [Decidable p] {b : Bool} (a1 : b = false) (a2 : p) : (!decide p) = b := by rw [decide_eq_true a2,a1]; rfl
theorem hv_x {n : Int} : homeV "xmm" n = n + 16 := by unfold homeV; rw [if_neg (by decide),if_pos rfl]
theorem hv_g {n : Int} : homeV "gpr" n = n := by unfold homeV; rw [if_neg (by decide),if_neg (by decide)]
theorem hv_h {n : Int} : homeV "high" n = n - 4 := by unfold homeV; rw [if_pos rfl]
theorem meet_gg {z z' : Int} (hz : 0 < z) (hz' : 0 < z') : (decide ((0 : Int) < 0 + z') && decide ((0 : Int) < 0 + z)) = true := by rw [Int.zero_add,Int.zero_add,decide_eq_true hz,decide_eq_true hz']; rfl
theorem turn_gg {V z z' : Int} (hz : z = 8 ∨ z = 16 ∨ z = 32 ∨ z = 64) (hz' : z' = 8 ∨ z' = 16 ∨ z' = 32 ∨ z' = 64) : ¬ putV "gpr" V z (2 ^ z.toNat - 1 - V % 2 ^ z.toNat) % 2 ^ z'.toNat = V % 2 ^ z'.toNat := by
  have h := @flip0 V z hz
  rcases hz' with rfl | rfl | rfl | rfl
  · rw [p8]; exact of_mod2 128 h
  · rw [p16]; exact of_mod2 32768 h
  · rw [p32]; exact of_mod2 2147483648 h
  · rw [p64]; exact of_mod2 9223372036854775808 h
theorem turn_g8 {V w : Int} : (V - V % 256 + w % 256) / 256 % 256 = V / 256 % 256 := by
  rw [upper,Int.add_comm,Int.add_mul_ediv_left _ _ (by decide),Int.ediv_eq_zero_of_lt (Int.emod_nonneg _ (by decide)) (Int.emod_lt_of_pos _ (by decide)),Int.zero_add]
theorem turn_h8 {V u : Int} : (V + u * 256) % 256 = V % 256 := Int.add_mul_emod_self_right ..
theorem some8 {z : Int} (hz : z = 8 ∨ z = 16 ∨ z = 32 ∨ z = 64) : 0 < z := by rcases hz with rfl | rfl | rfl | rfl <;> decide
theorem turn_seen {kd kd' : Str} {n lo z n' lo' z' V : Int} (S : Shape kd n lo z) (S' : Shape kd' n' lo' z') (hh : homeV kd n = homeV kd' n') (h0 : 0 ≤ V) (h1 : V < lim kd) :
    (!decide (seenV (putV kd V z (2 ^ z.toNat - 1 - seenV V lo z)) lo' z' = seenV V lo' z')) = (decide (lo < lo' + z') && decide (lo' < lo + z)) := by
  have f256 : ∀ V : Int,V.fdiv 256 = V / 256 := fun V => fd V (by decide)
  clear h0 h1
  rcases S with ⟨rfl,g1,g2,rfl,hz⟩ | ⟨rfl,g1,g2,rfl,rfl⟩ | ⟨rfl,g1,g2,rfl,rfl⟩
  · rcases S' with ⟨rfl,_,_,rfl,hz'⟩ | ⟨rfl,_,_,rfl,rfl⟩ | ⟨rfl,k1,k2,rfl,rfl⟩
    · simp only [seen_gpr,seen_gpr,seen_gpr]
      exact not_t (meet_gg (some8 hz) (some8 hz')) (turn_gg hz hz')
    · simp only [seen_high,seen_high,seen_gpr,f256,f256]
      clear hh g1 g2
      rcases hz with rfl | hz
      · rw [put_g8]; exact not_f' rfl turn_g8
      · refine not_t ?_ (of_mod2 128 (flip8 hz))
        rcases hz with rfl | rfl | rfl <;> rfl
    · rw [hv_g,hv_x] at hh; exact absurd g2 (by omega)
  · rcases S' with ⟨rfl,k1,k2,rfl,hz'⟩ | ⟨rfl,_,_,rfl,rfl⟩ | ⟨rfl,k1,k2,rfl,rfl⟩
    · simp only [seen_gpr,seen_gpr,seen_high,put_high,p8,f256]
      clear hh g1 g2 k1 k2
      rcases hz' with rfl | rfl | rfl | rfl
      · rw [p8]; exact not_f' rfl turn_h8
      · rw [p16]; exact not_t rfl (of_div2 128 flipH)
      · rw [p32]; exact not_t rfl (of_div2 8388608 flipH)
      · rw [p64]; exact not_t rfl (of_div2 36028797018963968 flipH)
    · simp only [seen_high,seen_high,put_high,p8,f256,f256]
      exact not_t rfl (of_mod2 128 flipH)
    · rw [hv_h,hv_x] at hh; exact absurd g2 (by omega)
  · rcases S' with ⟨rfl,k1,k2,rfl,hz'⟩ | ⟨rfl,k1,k2,rfl,rfl⟩ | ⟨rfl,_,_,rfl,rfl⟩
    · rw [hv_g,hv_x] at hh; exact absurd k2 (by omega)
    · rw [hv_h,hv_x] at hh; exact absurd k2 (by omega)
    · simp only [seen_gpr,seen_gpr,put_x,p128]
      exact not_t rfl (of_mod2 170141183460469231731687303715884105728 (flip_all0 (k := 170141183460469231731687303715884105728) (by decide)))
theorem hx_ (n : Int) : homeV "xmm" n = n + 16 := by unfold homeV; rw [if_neg (by decide),if_pos rfl]
theorem hg_ (n : Int) : homeV "gpr" n = n := by unfold homeV; rw [if_neg (by decide),if_neg (by decide)]
theorem hh_ (n : Int) : homeV "high" n = n - 4 := by unfold homeV; rw [if_pos rfl]
noncomputable def cellV (R M : List Int) (h : Int) : Int := if h < 16 then R.getD h.toNat 0 else M.getD (h - 16).toNat 0
noncomputable def setR (R : List Int) (h v : Int) : List Int := if h < 16 then R.set h.toNat v else R
noncomputable def setM (M : List Int) (h v : Int) : List Int := if h < 16 then M else M.set (h - 16).toNat v
theorem setR_len {R : List Int} {h v : Int} : (setR R h v).length = R.length := by unfold setR; split <;> simp
theorem setM_len {R : List Int} {h v : Int} : (setM R h v).length = R.length := by unfold setM; split <;> simp
theorem toNat_ne {a b : Int} (ha : 0 ≤ a) (hb : 0 ≤ b) (h : ¬ a = b) : ¬ a.toNat = b.toNat := fun q => h ((Int.toNat_of_nonneg ha).symm.trans ((congrArg Int.ofNat q).trans (Int.toNat_of_nonneg hb)))
theorem cell_set {R M : List Int} {h h' v : Int} (h0 : 0 ≤ h) (h1 : h < 32) (h2 : 0 ≤ h') (hR : R.length = 16) (hM : M.length = 16) : cellV (setR R h v) (setM M h v) h' = if h = h' then v else cellV R M h' := by
  unfold cellV setR setM
  by_cases e : h < 16
  · rw [if_pos e,if_pos e]
    by_cases e' : h' < 16
    · rw [if_pos e',if_pos e']
      rw [List.getD_eq_getElem?_getD,List.getD_eq_getElem?_getD,List.getElem?_set]
      by_cases eq : h = h'
      · subst eq; rw [if_pos rfl,if_pos rfl,if_pos (hR ▸ (Int.toNat_lt h0).mpr e)]; rfl
      · rw [if_neg (toNat_ne h0 h2 eq),if_neg eq]
    · rw [if_neg e',if_neg e',if_neg (fun q : h = h' => e' (q ▸ e))]
  · rw [if_neg e,if_neg e]
    by_cases e' : h' < 16
    · rw [if_pos e',if_pos e',if_neg (fun q : h = h' => e (q ▸ e'))]
    · have k0 := Int.sub_nonneg_of_le (Int.not_lt.mp e)
      rw [if_neg e',if_neg e']
      rw [List.getD_eq_getElem?_getD,List.getD_eq_getElem?_getD,List.getElem?_set]
      by_cases eq : h = h'
      · subst eq; rw [if_pos rfl,if_pos rfl,if_pos (hM ▸ (Int.toNat_lt k0).mpr (Int.sub_right_lt_of_lt_add h1))]; rfl
      · rw [if_neg (toNat_ne k0 (Int.sub_nonneg_of_le (Int.not_lt.mp e')) fun q => eq (by rw [← Int.sub_add_cancel h 16,q,Int.sub_add_cancel])),if_neg eq]
theorem bits_small {x : Int} (h0 : -1000000 < x) (h1 : x < 1000000) : Builtin.Int.intBits x ≤ 1000 := by
  unfold Builtin.Int.intBits
  split
  · decide
  · rename_i hx
    have hx : x ≠ 0 := by simpa using hx
    have h3 : (x.natAbs : Int) < 1000000 := by
      rcases Int.natAbs_eq x with e | e
      · exact Int.lt_of_le_of_lt (Int.le_of_eq e.symm) h1
      · exact Int.lt_of_neg_lt_neg (Int.lt_of_lt_of_le h0 (Int.le_of_eq e))
    have h2 : x.natAbs < 2 ^ 20 := Nat.lt_trans (Int.ofNat_lt.mp h3) (by decide)
    have := (Nat.log2_lt (Int.natAbs_ne_zero.mpr hx)).mpr h2
    (exact Nat.lt_of_lt_of_le (by assumption) (by decide))
section
variable {H : MH} {Q : AV → MH → Prop} {X : Nat → MH → Prop} {v : AV} {nm kd : Str} {n lo z : Int} {va vb vc : Value}
theorem get_use (Rw : RowI v nm kd n lo z) {r x : Nat} {R M : List Int} (st : StH H r x R M) (h0 : 0 ≤ cellV R M (homeV kd n)) (h1 : cellV R M (homeV kd n) < lim kd) (q : Q (.int (seenV (cellV R M (homeV kd n)) lo z)) H) : getC [stV r x va vb vc,regV nm kd n z] H Q X := by
  refine ⟨r,x,va,vb,vc,R,M,nm,kd,n,z,rfl,st,?_⟩
  have hm := Rw.hm
  rcases Rw.shape with ⟨rfl,a,b,rfl,d⟩ | ⟨rfl,a,b,rfl,rfl⟩ | ⟨rfl,a,b,rfl,rfl⟩
  · rw [seen_gpr,hg_] at q
    unfold cellV at q
    rw [if_pos b] at q
    exact .inl ⟨rfl,a,b,Int.le_trans (by decide) hm.2.2.2.1,Le.to 128 hm.2.2.2.2 rfl,q⟩
  · rw [seen_high,hh_] at q
    unfold cellV at q
    rw [if_pos (Int.lt_of_le_of_lt (Int.sub_le_self n (by decide)) (Int.lt_trans b (by decide)))] at q
    exact .inr (.inl ⟨rfl,a,by (exact Int.lt_of_lt_of_le (by assumption) (by decide)),q⟩)
  · rw [seen_gpr] at q
    rw [hx_] at q h0 h1
    rw [p128,Int.emod_eq_of_lt h0 (by rw [lim_x] at h1; exact h1)] at q
    unfold cellV at q
    rw [if_neg (Int.not_lt.mpr (Int.le_add_of_nonneg_left a)),Int.add_sub_cancel] at q
    exact .inr (.inr ⟨rfl,a,b,q⟩)
theorem stG {i : Nat} {a b : Int} {R M L : List Int} (hR : R.length = 16) (hM : M.length = 16) : StH (hG H i a b R M L) H.length (H.length + 1) R M := ⟨hG_r,hR,hG_x,hM,Nat.ne_of_lt (Nat.lt_succ_self _)⟩
theorem put_use (Rw : RowI v nm kd n lo z) {i : Nat} {a b w : Int} {R M L : List Int} (hR : R.length = 16) (hM : M.length = 16)
    (q : Q .none (hG H i a b (setR R (homeV kd n) (putV kd (cellV R M (homeV kd n)) z w)) (setM M (homeV kd n) (putV kd (cellV R M (homeV kd n)) z w)) L)) : putC [stV H.length (H.length + 1) va vb vc,regV nm kd n z,.int w] (hG H i a b R M L) Q X := by
  have hz := Rw.hm
  refine ⟨_,_,va,vb,vc,R,M,nm,kd,n,z,w,rfl,stG hR hM,Int.le_trans (by decide) hz.2.2.2.1,Le.to 128 hz.2.2.2.2 rfl,?_⟩
  rcases Rw.shape with ⟨rfl,a1,b1,rfl,d⟩ | ⟨rfl,a1,b1,rfl,rfl⟩ | ⟨rfl,a1,b1,rfl,rfl⟩
  · rw [put_gpr,hg_] at q
    unfold setR setM cellV at q
    rw [if_pos b1,if_pos b1,if_pos b1] at q
    refine .inl ⟨rfl,a1,b1,?_⟩
    rw [hG_setr]; exact q
  · rw [put_high,hh_] at q
    unfold setR setM cellV at q
    have k : n - 4 < 16 := (Int.lt_of_le_of_lt (Int.sub_le_self n (by decide)) (Int.lt_trans b1 (by decide)))
    rw [if_pos k,if_pos k,if_pos k] at q
    refine .inr (.inl ⟨rfl,a1,Int.lt_trans b1 (by decide),?_,?_⟩)
    · rw [p8]; exact bits_small (by lia) (by lia)
    · rw [hG_setr]; exact q
  · rw [put_xmm,hx_] at q
    unfold setR setM at q
    have k := Int.not_lt.mpr (Int.le_add_of_nonneg_left (a := 16) a1)
    rw [if_neg k,if_neg k,Int.add_sub_cancel] at q
    refine .inr (.inr ⟨rfl,a1,b1,?_⟩)
    rw [hG_setx]; exact q
end
theorem ints_eqv : ∀ {R R' : List Int},PyData.eqvAll (R.map .int) (R'.map .int) = decide (R = R')
  | [],[] => of_decide_eq_true rfl
  | [],_ :: _ => of_decide_eq_true rfl
  | _ :: _,[] => of_decide_eq_true rfl
  | a :: r,b :: t => by
    simp only [List.map_cons,List.map_cons,PyData.eqvAll,ints_eqv]
    have : PyData.eqv (.int a) (.int b) = decide (a = b) := by
      rw [Bool.eq_iff_iff,decide_eq_true_eq]
      simp [PyData.eqv]
    rw [this]
    by_cases h : a = b <;> by_cases h2 : r = t <;> simp [h,h2]
theorem ints_py {R : List Int} : IsPy (R.map .int) (R.map .int) := by
  induction R with
  | nil => exact .nil
  | cons a r ih => exact .int a ih
theorem eq_ints {R R' : List Int} {k : Bool → Prop} (q : k (decide (R = R'))) : cmpV .Eq (.lst (R.map .int)) (.lst (R'.map .int)) k :=
  ⟨_,_,ints_py,ints_py,ke_shaped_ints R,ke_shaped_ints R',by rw [ints_eqv]; exact q⟩
theorem ne_ints {R R' : List Int} {k : Bool → Prop} (q : k (!decide (R = R'))) : cmpV .NotEq (.lst (R.map .int)) (.lst (R'.map .int)) k :=
  ⟨_,_,ints_py,ints_py,ke_shaped_ints R,ke_shaped_ints R',by rw [ints_eqv]; exact q⟩
theorem pw_ok {z : Int} (h0 : 0 ≤ z) (h1 : z ≤ 200) : (2 : Int) ^ z.toNat ≠ 0 ∧ ((2 : Int) ^ z.toNat).natAbs.log2 < 9000 := by
  have a : (1 : Int) ≤ 2 ^ z.toNat := Int.pow_pos (by decide)
  refine ⟨by (exact Int.ne_of_gt (by assumption)),log_ok a ?_⟩
  exact_mod_cast Nat.pow_le_pow_right (by decide : 1 ≤ 2) (Int.toNat_le.mpr h1 : z.toNat ≤ 200)
theorem hi_nat {h : Int} (k : ¬ h < 16) : 16 + (h - 16).toNat = h.toNat := by omega
theorem held_cell {L : List Int} {h : Int} (h0 : 0 ≤ h) (h1 : h < 32) (hl : L.length = 32) : L.getD h.toNat 0 = cellV (L.take 16) (L.drop 16) h := by
  unfold cellV
  by_cases k : h < 16
  · rw [if_pos k,List.getD_eq_getElem?_getD,List.getD_eq_getElem?_getD,List.getElem?_take_of_lt ((Int.toNat_lt h0).mpr k)]
  · rw [if_neg k,List.getD_eq_getElem?_getD,List.getD_eq_getElem?_getD,List.getElem?_drop,hi_nat k]
theorem held_set {L : List Int} {h v : Int} (h0 : 0 ≤ h) (h1 : h < 32) (hl : L.length = 32) : (L.set h.toNat v).take 16 = setR (L.take 16) h v ∧ (L.set h.toNat v).drop 16 = setM (L.drop 16) h v := by
  unfold setR setM
  by_cases k : h < 16
  · rw [if_pos k,if_pos k]
    exact ⟨by rw [List.take_set],by rw [List.drop_set,if_pos ((Int.toNat_lt h0).mpr k)]⟩
  · have e := hi_nat k
    have g : 16 ≤ h.toNat := e ▸ Nat.le_add_right 16 _
    rw [if_neg k,if_neg k]
    exact ⟨by rw [List.take_set,List.set_eq_of_length_le (by rw [List.length_take]; exact Nat.le_trans (Nat.min_le_left _ _) g)],by rw [List.drop_set,if_neg (Nat.not_lt.mpr g),← e,Nat.add_sub_cancel_left]⟩
theorem cell_in {L : List Int} {kd : Str} {n lo z : Int} {v : AV} {nm : Str} (R : RowI v nm kd n lo z) (hl : L.length = 32) (C : Cells L) : 0 ≤ cellV (L.take 16) (L.drop 16) (homeV kd n) ∧ cellV (L.take 16) (L.drop 16) (homeV kd n) < lim kd := by
  have hm := R.hm
  rw [← held_cell hm.1 hm.2.1 hl]
  have hk : (homeV kd n).toNat < L.length := hl ▸ (Int.toNat_lt hm.1).mpr hm.2.1
  have e : L[(homeV kd n).toNat]? = some (L.getD (homeV kd n).toNat 0) := by
    rw [List.getD_eq_getElem?_getD,List.getElem?_eq_getElem hk]; rfl
  have := C _ _ e
  refine ⟨this.1,Int.lt_of_lt_of_le this.2 ?_⟩
  rcases R.shape with ⟨rfl,a,b,rfl,d⟩ | ⟨rfl,a,b,rfl,rfl⟩ | ⟨rfl,a,b,rfl,rfl⟩
  · rw [hg_,if_pos ((Int.toNat_lt a).mpr b),lim_g]; decide
  · rw [hh_,if_pos ((Int.toNat_lt (Int.sub_nonneg_of_le a)).mpr (Int.lt_of_le_of_lt (Int.sub_le_self n (by decide)) (Int.lt_trans b (by decide)))),lim_h]; decide
  · rw [hx_,if_neg (Nat.not_lt.mpr ((Int.le_toNat (n := 16) (Int.add_nonneg a (by decide : (0 : Int) ≤ 16))).mpr (Int.le_add_of_nonneg_left a))),lim_x]; decide
theorem lim_same {v v' : AV} {nm kd nm' kd' : Str} {n lo z n' lo' z' : Int} (R : RowI v nm kd n lo z) (R' : RowI v' nm' kd' n' lo' z') (e : homeV kd n = homeV kd' n') : lim kd = lim kd' := by
  have S := R.shape
  have S' := R'.shape
  clear R R'
  rcases S with ⟨rfl,a1,b1,rfl,d⟩ | ⟨rfl,a1,b1,rfl,rfl⟩ | ⟨rfl,a1,b1,rfl,rfl⟩ <;>
  rcases S' with ⟨rfl,a2,b2,rfl,d'⟩ | ⟨rfl,a2,b2,rfl,rfl⟩ | ⟨rfl,a2,b2,rfl,rfl⟩ <;>
  simp only [hx_,hg_,hh_] at e <;> first | rfl | lia
theorem ev_ok {n g : Nat} {args : List AV} {v : AV} {H : MH} {Q : AV → MH → Prop} {X : Nat → MH → Prop} (h : runF n g args = .ok v) : evCon n g args H Q X = Q v H := by unfold evCon; rw [h]; rfl
set_option maxHeartbeats 600000
section
variable {T : Nat → Option Con} {args : List AV} {H : MH} {Q : AV → MH → Prop} {X : Nat → MH → Prop}
inductive putsC (args : List AV) (H : MH) (Q : AV → MH → Prop) (X : Nat → MH → Prop) : Prop where
  | mk : ∀ i a b v v' nm kd n lo z nm' kd' n' lo' z' wo,(args = [.mu i,v,v',.int wo]) → (H[i]? = some [.int a,.int b]) → (0 ≤ a) → (0 ≤ b) → (b ≤ 900000) → (RowI v nm kd n lo z) → (RowI v' nm' kd' n' lo' z') → (∀ a' b' rest,0 ≤ a' → 0 ≤ b' → b' ≤ b + 32 → Q (.bool true) (H.set i [.int a',.int b'] ++ rest)) → putsC args H Q X
theorem ne_brB {R R' : List Int} {p q : Prop} (h : R = R' → q) (h2 : R ≠ R' → p) : ∃ d e,IsPy (R.map AV.int) d ∧ IsPy (R'.map AV.int) e ∧ PySem.SeqAt.shaped (.list d) = true ∧ PySem.SeqAt.shaped (.list e) = true ∧ brB (!PyData.eqvAll d e) p q :=
  ⟨_,_,ints_py,ints_py,ke_shaped_ints R,ke_shaped_ints R',by
    rw [ints_eqv]
    by_cases e : R = R'
    · rw [decide_eq_true e]; exact ⟨(fun x => falseX x),fun _ => h e⟩
    · rw [decide_eq_false e]; exact ⟨fun _ => h2 e,(fun x => falseX (Eq.symm x))⟩⟩
theorem bits_le {x : Int} (h0 : 0 ≤ x) (h1 : x ≤ 2 ^ 60) : Builtin.Int.intBits x ≤ 64 := by
  unfold Builtin.Int.intBits
  split
  · decide
  · rename_i hx
    have hx : x ≠ 0 := by simpa using hx
    have h2 : x.natAbs < 2 ^ 61 := by lia
    have := (Nat.log2_lt (by lia : x.natAbs ≠ 0)).mpr h2
    (exact Nat.lt_of_lt_of_le (by assumption) (by decide))
theorem eq_brB {R R' : List Int} {p q : Prop} (e : R = R') (h : p) : ∃ d e,IsPy (R.map AV.int) d ∧ IsPy (R'.map AV.int) e ∧ PySem.SeqAt.shaped (.list d) = true ∧ PySem.SeqAt.shaped (.list e) = true ∧ brB (PyData.eqvAll d e) p q :=
  ⟨_,_,ints_py,ints_py,ke_shaped_ints R,ke_shaped_ints R',by
    rw [ints_eqv,decide_eq_true e]; exact ⟨fun _ => h,(fun x => falseX (Eq.symm x))⟩⟩
theorem seenE {V lo z : Int} : (V.fdiv (2 ^ lo.toNat)).fmod (2 ^ z.toNat) = seenV V lo z := rfl
inductive findC (args : List AV) (H : MH) (Q : AV → MH → Prop) (X : Nat → MH → Prop) : Prop where
  | mk : ∀ v nm kd n lo z,(args = [.str nm]) → (RowI v nm kd n lo z) → (Q (regV nm kd n z) H) → findC args H Q X
inductive homeC (args : List AV) (H : MH) (Q : AV → MH → Prop) (X : Nat → MH → Prop) : Prop where
  | mk : ∀ v nm kd n lo z,(args = [v]) → (RowI v nm kd n lo z) → (Q (.int (homeV kd n)) H) → homeC args H Q X
theorem puts_wp (t99 : T 99 = some wrapC) (t655 : T 655 = some stateC) (t270 : T 270 = some findC) (t624 : T 624 = some homeC) (t502 : T 502 = some getC) (t509 : T 509 = some putC) (t631 : T 631 = some meetC) (t298 : T 298 = some ovC)
    (h : putsC args H Q X) : Body T lo_law_puts_right ir_law_puts_right args H Q X := by
  obtain ⟨i,a,b,v,v',nm,kd,n,lo,z,nm',kd',n',lo',z',wo,rfl,hi,ha,hb,hbB,R,R',q⟩ := h
  refine ⟨rfl,?_⟩
  have hil : i < H.length := (List.getElem?_eq_some_iff.mp hi).1
  have m1 := R.hm
  have m2 := R'.hm
  cases R.eq
  cases R'.eq
  simp only [↓wq2,stepS,ir_law_puts_right,↓sir2,↓wq1,↓ser11h,↓evr2,↓ser2,mapC,mapN,lo_law_puts_right,List.length_cons,List.length_nil,Nat.reduceAdd,Nat.reduceSub,List.replicate,List.cons_append,List.nil_append,List.getElem?_cons_zero,↓evr1,↓callH t655,rv2]
  refine ⟨i,a,b,rfl,hi,ha,hb,hbB,fun L a' b' va vb vc hl hc ha' hb' hb2 => ?_⟩
  simp only [sea2,List.set_cons_succ,List.set_cons_zero,sea3,sek2,List.getElem?_cons_succ,List.getElem?_cons_zero,sea1,↓opr]
  simp only [seq_next]
  simp only [↓wq2,stepS,↓sir2,↓wq1,↓ser18,↓evr2,↓ser11h,↓ser16,↓ser2,List.getElem?_cons_succ,List.getElem?_cons_zero,↓ser1,↓vid2,List.length_cons,List.length_nil,Nat.reduceAdd,↓evr1,↓callH t270,Int.toNat_zero,gdZ,view,rv2,sea2,List.set_cons_succ,List.set_cons_zero,sea1,↓idr2,↓opr]
  refine ⟨⟨by decide,of_decide_eq_true rfl,of_decide_eq_true rfl⟩,_,nm,kd,n,lo,z,rfl,R,⟨of_decide_eq_true rfl,of_decide_eq_true rfl,of_decide_eq_true rfl⟩,callI t270 ⟨_,nm',kd',n',lo',z',rfl,R',?_⟩⟩
  refine ⟨by decide,?_⟩
  simp only [seq_next]
  have l1 := R.lo8
  have p0 := m1.2.2.1
  have pz := Int.le_trans (by decide : (0 : Int) ≤ 8) m1.2.2.2.1
  have pZ := m1.2.2.2.2
  have o0 := m2.2.2.1
  have oz := Int.le_trans (by decide : (0 : Int) ≤ 8) m2.2.2.2.1
  have z1 := pw_ok p0 (Le.to 8 l1 rfl)
  have z2 := pw_ok pz (Le.to 128 pZ rfl)
  have y1 := pw_ok o0 (Le.to 8 R'.lo8 rfl)
  have y2 := pw_ok oz (Le.to 128 m2.2.2.2.2 rfl)
  have pM := Le.to (b := 1000000) 128 pZ rfl
  have pl := Le.to (b := 1000000) 8 l1 rfl
  have hR : (L.take 16).length = 16 := by simp [hl]
  have hM : (L.drop 16).length = 16 := by simp [hl]
  have c1 := cell_in R hl hc
  have c2 := cell_in R' hl hc
  have v1 := held_cell (L := L) m1.1 m1.2.1 hl
  have v2 := held_cell (L := L) m2.1 m2.2.1 hl
  have x1 : (L.map AV.int).getD (homeV kd n).toNat .none = .int (L.getD (homeV kd n).toNat 0) := getD_int (hl ▸ (Int.toNat_lt m1.1).mpr m1.2.1)
  have x2 : (L.map AV.int).getD (homeV kd' n').toNat .none = .int (L.getD (homeV kd' n').toNat 0) := getD_int (hl ▸ (Int.toNat_lt m2.1).mpr m2.2.1)
  have hlm : (L.map AV.int).length = 32 := by simp [hl]
  simp only [↓wq2,stepS,↓sir1,↓wq1,↓ser20,↓ser18,↓evr2,↓ser2,List.getElem?_cons_succ,List.getElem?_cons_zero,↓evr1,List.length_cons,List.length_nil,Nat.reduceAdd,itemsOf,mapC,mapN,sek1,List.set_cons_succ,List.set_cons_zero,↓opr]
  simp only [↓cor2,↓wq1,↓ser4,↓ser16,↓ser2,List.getElem?_cons_succ,List.getElem?_cons_zero,↓ser11h,↓evr2,↓evr1,↓callH t624,view,↓ser1,↓cor1,List.nil_append,List.cons_append,↓idr2,List.length_cons,List.length_nil,Nat.reduceAdd,Int.reduceToNat,gdS,gdZ,↓biv1,↓bii9]
  refine ⟨by decide,by decide,_,nm,kd,n,lo,z,rfl,R,?_⟩
  simp only [hG_l,↓callH t624,↓idr1,hlm,x1,↓biv1,↓bii5,↓bii4]
  refine ⟨⟨m1.1,m1.2.1,by decide⟩,⟨by decide,by decide,by decide⟩,⟨p0,pl,by decide⟩,z1,⟨by decide,of_decide_eq_true rfl,of_decide_eq_true rfl⟩,⟨pz,pM,of_decide_eq_true rfl⟩,z2.1,?_⟩
  refine ⟨_,nm',kd',n',lo',z',rfl,R',?_⟩
  simp only [hG_l,↓idr1,hlm,x2,↓biv1,↓bii5,↓bii4]
  refine ⟨⟨m2.1,m2.2.1,of_decide_eq_true rfl⟩,⟨of_decide_eq_true rfl,of_decide_eq_true rfl,of_decide_eq_true rfl⟩,⟨o0,Le.to 8 R'.lo8 rfl,of_decide_eq_true rfl⟩,y1,⟨of_decide_eq_true rfl,of_decide_eq_true rfl,of_decide_eq_true rfl⟩,⟨oz,Le.to 128 m2.2.2.2.2 rfl,of_decide_eq_true rfl⟩,y2.1,?_⟩
  simp only [seq_next]
  simp only [↓wq2,stepS,↓sir4,↓wq1,↓ser5,↓ser19,↓evr2,↓ser13h,↓ser2,List.getElem?_cons_succ,List.getElem?_cons_zero,↓evr1,↓callH t502,List.length_cons,List.length_nil,Nat.reduceAdd,view,↓isr,↓sir7,↓ser1,↓cmr8,eqo2]
  refine ⟨rfl,get_use R (stG hR hM) c1.1 c1.2 ?_⟩
  refine ⟨rfl,callI t502 (get_use R' (stG hR hM) c2.1 c2.2 ?_)⟩
  refine ⟨by decide,ne_brB (R := [_,_]) (R' := [_,_]) (fun _ => ?_) fun h => absurd ?_ h⟩
  rotate_left
  · rw [v1,v2]; rfl
  rw [v1,v2]
  have S := R.shape
  have S' := R'.shape
  have hP1 := put_in (w := 2 ^ z.toNat - 1 - seenV (cellV (L.take 16) (L.drop 16) (homeV kd n)) lo z) S c1.1 c1.2
  have hturn := fun hh => turn_seen S S' hh c1.1 c1.2
  have hsame : homeV kd n = homeV kd' n' → cellV (L.take 16) (L.drop 16) (homeV kd n) = cellV (L.take 16) (L.drop 16) (homeV kd' n') := fun e => by rw [e]
  have hdue := fun x => put_due (w := 2 ^ z.toNat - 1 - seenV (cellV (L.take 16) (L.drop 16) (homeV kd n)) lo z) (x := x) S c1.1 c1.2
  simp only [seq_next]
  simp only [↓wq2,stepS,↓sir8,↓wq1,↓ser13h,↓ser2,List.getElem?_cons_succ,List.getElem?_cons_zero,↓evr2,↓ser4,↓ser1,↓ser16,↓vid2,List.length_cons,List.length_nil,Nat.reduceAdd,view,Int.reduceToNat,gdS,gdZ,↓vid1,Int.toNat_zero,↓evr1,↓callH t509,↓biv1,↓bii9,↓bii2,true_and]
  refine ⟨rfl,⟨of_decide_eq_true rfl,of_decide_eq_true rfl,of_decide_eq_true rfl⟩,⟨pz,pM,of_decide_eq_true rfl⟩,⟨of_decide_eq_true rfl,of_decide_eq_true rfl,of_decide_eq_true rfl⟩,?_⟩
  rw [seenE (lo := lo) (z := z)]
  refine put_use R hR hM ?_
  simp only [seq_next]
  generalize hV : cellV (L.take 16) (L.drop 16) (homeV kd n) = V at *
  generalize hV' : cellV (L.take 16) (L.drop 16) (homeV kd' n') = V' at *
  generalize hP : putV kd V z (2 ^ z.toNat - 1 - seenV V lo z) = P at *
  have cs := fun h' (k : 0 ≤ h') => cell_set (R := L.take 16) (M := L.drop 16) (h := homeV kd n) (h' := h') (v := P) m1.1 m1.2.1 k hR hM
  have r1 : (setR (L.take 16) (homeV kd n) P).length = 16 := by rw [setR_len]; exact hR
  have r2 : (setM (L.drop 16) (homeV kd n) P).length = 16 := by rw [setM_len]; exact hM
  have hld : L.drop 16 = L.drop 16 := rfl
  have g1 := cs (homeV kd n) m1.1
  have g2 := cs (homeV kd' n') m2.1
  rw [if_pos rfl] at g1
  rw [hV'] at g2
  generalize hR1 : setR (L.take 16) (homeV kd n) P = R1 at *
  generalize hM1 : setM (L.drop 16) (homeV kd n) P = M1 at *
  have hch : (!decide (seenV (cellV R1 M1 (homeV kd' n')) lo' z' = seenV V' lo' z')) = meetB kd n lo z kd' n' lo' z' := by
    rw [g2]
    unfold meetB
    by_cases e : homeV kd n = homeV kd' n'
    · rw [if_pos e,decide_eq_true e,Bool.true_and,← hturn e,hsame e]
    · rw [if_neg e,decide_eq_false e,Bool.false_and,decide_eq_true rfl]; rfl
  have b2 : 0 ≤ cellV R1 M1 (homeV kd' n') ∧ cellV R1 M1 (homeV kd' n') < lim kd' := by
    rw [g2]
    split
    · rename_i e
      rw [← lim_same R R' e]; exact hP1
    · exact c2
  simp only [↓wq2,stepS,↓sir1,↓wq1,↓ser5,↓ser13h,↓ser2,List.getElem?_cons_succ,List.getElem?_cons_zero,↓evr2,↓evr1,↓callH t502,↓ser16,↓ser1,view,sek1,List.set_cons_succ,List.set_cons_zero,↓idr1,List.length_cons,List.length_nil,Nat.reduceAdd,Int.toNat_one,gdS,gdZ,↓opr]
  refine ⟨rfl,get_use R' (stG r1 r2) b2.1 b2.2 ?_⟩
  rw [seenE (lo := lo') (z := z')]
  refine ⟨⟨by decide,of_decide_eq_true rfl,of_decide_eq_true rfl⟩,?_⟩
  simp only [↓cmr2,↓cmi2,hch,↓opr]
  simp only [seq_next]
  simp only [↓wq2,stepS,↓sir1,↓wq1,↓ser11h,↓evr2,↓ser2,List.getElem?_cons_succ,List.getElem?_cons_zero,↓evr1,↓callH t631,sek1,List.set_cons_succ,List.set_cons_zero,↓opr]
  refine ⟨_,_,nm,kd,n,lo,z,nm',kd',n',lo',z',rfl,R,R',?_⟩
  simp only [seq_next]
  have hsym : meetB kd' n' lo' z' kd n lo z = meetB kd n lo z kd' n' lo' z' := by
    unfold meetB
    simp only [Bool.and_comm (decide (lo' < lo + z))]
    congr 1
    exact decide_eq_decide.mpr eq_comm
  simp only [↓wq2,stepS,↓sir4,↓wq1,↓ser9,↓orr2,↓ser5,↓ser2,List.getElem?_cons_succ,List.getElem?_cons_zero,view,↓isr,↓brCT,↓sir7,↓ser1,↓ser11h,↓evr2,↓evr1,↓callH t298,↓orr1,↓cmr4,cmpB,bne_self_eq_false,↓opr,↓brCF]
  refine ⟨_,_,nm,kd,n,lo,z,nm',kd',n',lo',z',rfl,R,R',?_⟩
  simp only [↓cmr4,cmpB,bne_self_eq_false,↓brCT,↓callH t298,↓opr,↓brCF]
  refine ⟨_,_,nm',kd',n',lo',z',nm,kd,n,lo,z,rfl,R',R,?_⟩
  simp only [hsym]
  simp only [↓cmr4,cmpB,bne_self_eq_false,↓opr,↓brCF]
  simp only [seq_next]
  simp only [↓wq2,stepS,↓sir8,↓wq1,↓ser13h,↓ser2,List.getElem?_cons_succ,List.getElem?_cons_zero,↓evr2,↓evr1,↓callH t509]
  refine ⟨rfl,put_use R r1 r2 ?_⟩
  rw [g1]
  generalize hP2 : putV kd P z wo = P2 at *
  have q3 : (setR R1 (homeV kd n) P2).length = 16 := by rw [setR_len]; exact r1
  have q4 : (setM M1 (homeV kd n) P2).length = 16 := by rw [setM_len]; exact r2
  have q5 : setR R1 (homeV kd n) P2 = setR (L.take 16) (homeV kd n) P2 := by
    rw [← hR1]; unfold setR; split <;> simp [List.set_set]
  have q6 : setM M1 (homeV kd n) P2 = setM (L.drop 16) (homeV kd n) P2 := by
    rw [← hM1]; unfold setM; split <;> simp [List.set_set]
  rw [q5] at q3 ⊢
  rw [q6] at q4 ⊢
  have q7 := cell_set (R := L.take 16) (M := L.drop 16) (h := homeV kd n) (h' := homeV kd n) (v := P2) m1.1 m1.2.1 m1.1 hR hM
  rw [if_pos rfl] at q7
  have q8 : 0 ≤ P2 ∧ P2 < lim kd := by rw [← hP2]; exact put_in S hP1.1 hP1.2
  have q9 : seenV P2 lo z = wo.fmod (2 ^ z.toNat) := by rw [← hP2]; exact put_seen S hP1.1 hP1.2
  simp only [seq_next]
  simp only [↓wq2,stepS,↓sir2,↓wq1,↓ser18,↓evr2,↓ser11h,↓ser2,List.getElem?_cons_succ,List.getElem?_cons_zero,↓evr1,↓callH t624,↓ser4,↓ser1,↓ser16,view,List.length_cons,List.length_nil,Nat.reduceAdd,rv2,sea2,List.set_cons_succ,List.set_cons_zero,sea1,↓idr2,Int.reduceToNat,gdS,gdZ,↓opr,↓biv1,↓bii9,↓bii4]
  refine ⟨_,nm,kd,n,lo,z,rfl,R,?_⟩
  refine ⟨⟨by decide,of_decide_eq_true rfl,of_decide_eq_true rfl⟩,⟨pz,pM,by decide⟩,z2.1,by decide,?_⟩
  simp only [seq_next]
  have hpl : (2 : Int) ^ lo.toNat ≤ 2 ^ 60 := by exact_mod_cast Nat.pow_le_pow_right (by decide : 1 ≤ 2) (Int.toNat_le.mpr (Le.to 8 l1 rfl) : lo.toNat ≤ 60)
  have hpl0 : (0 : Int) ≤ 2 ^ lo.toNat := Int.le_of_lt (Int.pow_pos (by decide))
  simp only [↓wq2,stepS,↓sir1,↓wq1,↓ser4,↓ser16,↓ser2,List.getElem?_cons_succ,List.getElem?_cons_zero,view,hG_l,↓ser1,↓vid2,List.length_cons,List.length_nil,Nat.reduceAdd,Int.reduceToNat,gdS,gdZ,sek1,List.set_cons_succ,List.set_cons_zero,↓opr,↓biv1,↓bii9,↓idr1,hlm,x1,v1,↓bii4]
  refine ⟨⟨m1.1,m1.2.1,by decide⟩,⟨by decide,of_decide_eq_true rfl,of_decide_eq_true rfl⟩,⟨p0,pl,of_decide_eq_true rfl⟩,z1.1,?_⟩
  simp only [seq_next]
  have hdue := hdue wo
  simp only [hP2] at hdue
  have hset := held_set (L := L) (v := P2) m1.1 m1.2.1 hl
  by_cases hz : 32 ≤ z
  · rw [if_pos hz] at hdue
    simp only [↓wq2,stepS,↓sir1,↓wq1,↓ser10,↓ser5,↓ser16,↓ser2,List.getElem?_cons_succ,List.getElem?_cons_zero,↓ser1,↓vid2,List.length_cons,List.length_nil,Nat.reduceAdd,view,Int.reduceToNat,gdS,gdZ,↓isr,sek1,List.set_cons_succ,List.set_cons_zero,↓opr,↓ser4,hG_l,↓biv1,↓bii1,↓bii9,true_and,↓idr1,hlm,x1,v1,↓bii5,↓bii3,↓cmr2,↓cmi6,decide_eq_true hz,↓brCT]
    refine ⟨⟨of_decide_eq_true rfl,of_decide_eq_true rfl,of_decide_eq_true rfl⟩,?_⟩
    simp only [seq_next]
    simp only [↓wq2,stepS,↓sir3,↓wq1,↓ser4,↓ser2,List.getElem?_cons_succ,List.getElem?_cons_zero,↓ser1,↓ser16,↓vid2,List.length_cons,List.length_nil,Nat.reduceAdd,view,Int.reduceToNat,gdS,gdZ,hG_l,hlm,↓biv1,↓bii9,↓bii3,↓bii1,repI,true_and]
    refine ⟨⟨of_decide_eq_true rfl,of_decide_eq_true rfl,of_decide_eq_true rfl⟩,⟨p0,pl,of_decide_eq_true rfl⟩,mul_ok (.inr (bits_le hpl0 hpl)),⟨m1.1,m1.2.1,of_decide_eq_true rfl⟩,?_⟩
    simp only [set_int,hG_setl,← hdue,seq_next]
    simp only [↓wq2,stepS,↓sir7,↓wq1,↓ser8,↓anr2,↓ser5,↓ser15,↓ser2,List.getElem?_cons_succ,List.getElem?_cons_zero,↓ser17,↓eor1,↓eor2,↓ser1,view,hG_l,hG_r,↓isr,hG_x,↓anr1,↓ser13h,↓evr2,↓evr1,↓callH t502,↓slr3,↓cmr8,Int.reduceToNat,← List.map_drop,eqo1,true_and,↓slr1,← List.map_take]
    refine ⟨⟨by decide,by decide,by rw [List.length_map,List.length_set,hl]; decide⟩,eq_brB hset.1.symm ?_⟩
    refine ⟨⟨of_decide_eq_true rfl,of_decide_eq_true rfl,by rw [List.length_map,List.length_set,hl]; decide⟩,eq_brB hset.2.symm ?_⟩
    refine ⟨rfl,get_use R (stG q3 q4) (by rw [q7]; exact q8.1) (by rw [q7]; exact q8.2) ?_⟩
    simp only [q7,q9]
    simp only [↓cmr2,↓cmi1,decide_true,seqQ,↓opr]
    exact q a' b' _ ha' hb' hb2
  · rw [if_neg hz] at hdue
    have w0 := Int.add_nonneg p0 pz
    have w1 : lo + z ≤ 40 := Int.add_le_add l1 (Int.le_of_lt (Int.not_le.mp hz))
    have hw := pw_ok w0 (Le.to 40 w1 rfl)
    have hpw : (2 : Int) ^ (lo + z).toNat ≤ 2 ^ 60 := by exact_mod_cast Nat.pow_le_pow_right (by decide : 1 ≤ 2) (Int.toNat_le.mpr (Le.to 40 w1 rfl) : (lo + z).toNat ≤ 60)
    have hpw0 : (0 : Int) ≤ 2 ^ (lo + z).toNat := Int.le_of_lt (Int.pow_pos (by decide))
    simp only [↓wq2,stepS,↓sir1,↓wq1,↓ser10,↓ser5,↓ser16,↓ser2,List.getElem?_cons_succ,List.getElem?_cons_zero,↓ser1,↓vid2,List.length_cons,List.length_nil,Nat.reduceAdd,view,Int.reduceToNat,gdS,gdZ,↓isr,sek1,List.set_cons_succ,List.set_cons_zero,↓opr,↓ser4,hG_l,↓biv1,↓bii1,↓bii9,true_and,↓idr1,hlm,x1,v1,↓bii5,↓bii3,↓cmr2,↓cmi6,decide_eq_false hz,↓brCF]
    refine ⟨⟨of_decide_eq_true rfl,of_decide_eq_true rfl,of_decide_eq_true rfl⟩,⟨m1.1,m1.2.1,of_decide_eq_true rfl⟩,⟨of_decide_eq_true rfl,of_decide_eq_true rfl,of_decide_eq_true rfl⟩,⟨of_decide_eq_true rfl,of_decide_eq_true rfl,of_decide_eq_true rfl⟩,⟨w0,Le.to 40 w1 rfl,of_decide_eq_true rfl⟩,hw,⟨of_decide_eq_true rfl,of_decide_eq_true rfl,of_decide_eq_true rfl⟩,⟨of_decide_eq_true rfl,of_decide_eq_true rfl,of_decide_eq_true rfl⟩,⟨w0,Le.to 40 w1 rfl,of_decide_eq_true rfl⟩,mul_ok (.inr (bits_le hpw0 hpw)),?_⟩
    simp only [seq_next]
    simp only [↓wq2,stepS,↓sir3,↓wq1,↓ser4,↓ser2,List.getElem?_cons_succ,List.getElem?_cons_zero,↓ser1,↓ser16,↓vid2,List.length_cons,List.length_nil,Nat.reduceAdd,view,Int.reduceToNat,gdS,gdZ,hG_l,hlm,↓biv1,↓bii9,↓bii3,↓bii1,repI,true_and]
    refine ⟨⟨of_decide_eq_true rfl,of_decide_eq_true rfl,of_decide_eq_true rfl⟩,⟨p0,pl,of_decide_eq_true rfl⟩,mul_ok (.inr (bits_le hpl0 hpl)),⟨m1.1,m1.2.1,of_decide_eq_true rfl⟩,?_⟩
    simp only [set_int,hG_setl,← hdue,seq_next]
    simp only [↓wq2,stepS,↓sir7,↓wq1,↓ser8,↓anr2,↓ser5,↓ser15,↓ser2,List.getElem?_cons_succ,List.getElem?_cons_zero,↓ser17,↓eor1,↓eor2,↓ser1,view,hG_l,hG_r,↓isr,hG_x,↓anr1,↓ser13h,↓evr2,↓evr1,↓callH t502,↓slr3,↓cmr8,Int.reduceToNat,← List.map_drop,eqo1,true_and,↓slr1,← List.map_take]
    refine ⟨⟨of_decide_eq_true rfl,of_decide_eq_true rfl,by rw [List.length_map,List.length_set,hl]; decide⟩,eq_brB hset.1.symm ?_⟩
    refine ⟨⟨of_decide_eq_true rfl,of_decide_eq_true rfl,by rw [List.length_map,List.length_set,hl]; decide⟩,eq_brB hset.2.symm ?_⟩
    refine ⟨rfl,get_use R (stG q3 q4) (by rw [q7]; exact q8.1) (by rw [q7]; exact q8.2) ?_⟩
    simp only [q7,q9]
    simp only [↓cmr2,↓cmi1,decide_true,seqQ,↓opr]
    exact q a' b' _ ha' hb' hb2
end
theorem top_bit_eq {x n : Int} (h0 : 1 ≤ n) : x.fdiv (2 ^ (n - 1).toNat) % 2 = if 2 ^ n.toNat ≤ 2 * (x % 2 ^ n.toNat) then 1 else 0 := by
  have key := top_iff (x := x) h0
  obtain ⟨k,rfl⟩ : ∃ k : Nat,n = (k + 1 : Nat) := ⟨(n - 1).toNat,by omega⟩
  have e1 : ((k + 1 : Nat) : Int).toNat = k + 1 := by lia
  have e2 : (((k + 1 : Nat) : Int) - 1).toNat = k := by lia
  rw [e1,e2] at key
  rw [e1,e2]
  have hp : (0 : Int) < 2 ^ k := Int.pow_pos (by decide)
  have hs : (2 : Int) ^ (k + 1) = 2 ^ k * 2 := Int.pow_succ 2 k
  rw [fd _ (Int.le_of_lt hp)] at key
  rw [fd _ (Int.le_of_lt hp)]
  have h1 := Int.emod_nonneg x (Int.ne_of_gt (show (0 : Int) < 2 ^ (k + 1) by lia))
  have h2 := Int.emod_lt_of_pos x (show (0 : Int) < 2 ^ (k + 1) by lia)
  have h3 := Int.mul_ediv_add_emod x (2 ^ (k + 1))
  have h4 : x / 2 ^ k = 2 * (x / 2 ^ (k + 1)) + (x % 2 ^ (k + 1)) / 2 ^ k := by
    have : x = x % 2 ^ (k + 1) + 2 ^ k * (2 * (x / 2 ^ (k + 1))) := by rw [← Int.mul_assoc,← hs]; lia
    conv => lhs; rw [this]
    rw [Int.add_mul_ediv_left _ _ (Int.ne_of_gt hp)]
    lia
  have a : 0 ≤ (x % 2 ^ (k + 1)) / 2 ^ k := Int.ediv_nonneg h1 (Int.le_of_lt hp)
  have b : (x % 2 ^ (k + 1)) / 2 ^ k < 2 := Int.ediv_lt_of_lt_mul hp (by lia)
  split
  · rename_i h; have := key.mpr h; lia
  · rename_i h; have := mt key.mp h; lia
section
variable {T : Nat → Option Con} {args : List AV} {H : MH} {Q : AV → MH → Prop} {X : Nat → MH → Prop}
inductive numbersC (args : List AV) (H : MH) (Q : AV → MH → Prop) (X : Nat → MH → Prop) : Prop where
  | mk : ∀ i a b wo,(args = [.mu i,.int wo]) → (H[i]? = some [.int a,.int b]) → (0 ≤ a) → (0 ≤ b) → (b ≤ 900000) → (∀ a' b',0 ≤ a' → 0 ≤ b' → b' ≤ b + 2 → Q (.bool true) (H.set i [.int a',.int b'])) → numbersC args H Q X
theorem numbers_wp (t99 : T 99 = some wrapC) (t106 : T 106 = some signedC) (t113 : T 113 = some extC) (t127 : T 127 = some topC) (t612 : T 612 = some pickC)
    (h : numbersC args H Q X) : Body T lo_law_numbers_right ir_law_numbers_right args H Q X := by
  obtain ⟨i,a,b,wo,rfl,hi,ha,hb,hbB,q⟩ := h
  refine ⟨rfl,?_⟩
  have hil : i < H.length := (List.getElem?_eq_some_iff.mp hi).1
  have gs : ∀ x,(H.set i x)[i]? = some x := fun x => by simp [hil]
  simp only [↓wq2,stepS,ir_law_numbers_right,↓sir1,↓wq1,↓ser11h,↓evr2,↓ser2,mapC,mapN,lo_law_numbers_right,List.length_cons,List.length_nil,Nat.reduceAdd,Nat.reduceSub,List.replicate,List.cons_append,List.nil_append,List.getElem?_cons_zero,↓ser19,↓ser1,↓evr1,↓callH t612,sek1,List.set_cons_succ,List.set_cons_zero,↓opr]
  refine ⟨by decide,i,_,a,b,rfl,hi,(fun h => nomatch h),by decide,ha,hb,by (exact Int.le_trans (by assumption) (by decide)),fun v hv a' b' ha' hb' hb2 => ?_⟩
  obtain ⟨n,rfl,h0,h1⟩ : ∃ n : Int,v = .int n ∧ 1 ≤ n ∧ n ≤ 64 := by
    simp only [List.mem_cons,List.not_mem_nil,or_false] at hv
    rcases hv with rfl | rfl | rfl | rfl | rfl | rfl | rfl <;> exact ⟨_,rfl,by decide,by decide⟩
  simp only [seq_next]
  simp only [↓wq2,stepS,↓sir2,↓wq1,↓ser18,↓evr2,↓ser4,↓ser2,List.getElem?_cons_succ,List.getElem?_cons_zero,↓ser11h,↓ser19,↓ser1,↓evr1,List.length_cons,List.length_nil,Nat.reduceAdd,↓callH t612,view,rv2,sea2,List.set_cons_succ,List.set_cons_zero,sea1,↓biv1,↓bii9,↓opr,↓bii4]
  refine ⟨by decide,i,_,a',b',rfl,gs _,(fun h => nomatch h),by decide,ha',hb',by lia,fun v hv a'' b'' ha'' hb'' hb3 => ?_⟩
  obtain ⟨z,rfl,z0,z1⟩ : ∃ n : Int,v = .int n ∧ 0 ≤ n ∧ n ≤ 32 := by
    simp only [List.mem_cons,List.not_mem_nil,or_false] at hv
    rcases hv with rfl | rfl | rfl | rfl <;> exact ⟨_,rfl,by decide,by decide⟩
  have q := q a'' b'' ha'' hb'' (by lia)
  have hp : (0 : Int) < 2 ^ n.toNat := Int.pow_pos (by decide)
  have hp2 : (0 : Int) < 2 ^ (n + z).toNat := Int.pow_pos (by decide)
  simp only [↓biv1,↓bii1,List.set_set,true_and]
  refine ⟨⟨by (exact Int.le_of_lt (by assumption)),by (exact Int.le_trans (by assumption) (by decide)),by decide⟩,by (exact Int.ne_of_gt (by assumption)),by decide,?_⟩
  rw [fm _ (Int.le_of_lt hp)]
  simp only [seq_next]
  have cont : ∀ due,due = sgn wo n.toNat → (decide (due < 0) = decide (2 ^ n.toNat ≤ 2 * (wo % 2 ^ n.toNat))) →
      (wpq T 23).2 [IS.iff
              (IE.or
                [(IE.call 99 [IE.loc 1,IE.loc 2]).cmp CmpOp.NotEq (IE.loc 4),
                  (IE.call 106 [IE.loc 1,IE.loc 2]).cmp CmpOp.NotEq (IE.loc 5),
                  (IE.call 127 [IE.loc 1,IE.loc 2]).cmp CmpOp.NotEq
                    (IE.bcall BF.int [(IE.loc 5).cmp CmpOp.Lt (IE.c (AV.int 0))])])
              [IS.ret (IE.c (AV.bool false))] [],
            IS.ret
              ((IE.call 113 [IE.loc 1,IE.loc 2,IE.loc 3]).cmp CmpOp.Eq
                (IE.bin Operator.Mod (IE.loc 5) (IE.bin Operator.Pow (IE.c (AV.int 2)) (IE.loc 3))))]
          [some (AV.mu i),some (AV.int wo),some (AV.int n),some (AV.int (n + z)),
            some (AV.int (wo % 2 ^ n.toNat)),some (.int due)]
          (List.set H i [AV.int a'',AV.int b'']) (fun fl x H' =>
            match fl with
            | FL.ret v => Q v H'
            | FL.next => Q AV.none H'
            | x => False)
          X := by
    intro due hd hneg
    simp only [↓wq2,stepS,↓sir4,↓wq1,↓ser9,↓orr2,↓ser5,↓ser11h,↓evr2,↓ser2,List.getElem?_cons_succ,List.getElem?_cons_zero,↓evr1,↓callH t99,view,↓isr,↓sir7,↓ser1,↓orr1,↓ser12,mapC,mapN,↓cmr2,↓cmi3,↓bfr3,↓opr]
    refine ⟨_,_,rfl,by (exact Int.le_of_lt (by assumption)),by (exact Int.le_trans (by assumption) (by decide)),?_⟩
    simp only [↓cmr2,↓cmi2,decide_true,notT,↓brCT,↓callH t106,↓opr,↓brCF]
    refine ⟨_,_,rfl,by omega,by omega,?_⟩
    rw [← hd]
    simp only [↓cmr2,↓cmi2,decide_true,notT,↓brCT,↓callH t127,↓opr,↓brCF]
    refine ⟨_,_,rfl,by omega,?_⟩
    rw [top_bit_eq h0]
    have e : (if decide (due < 0) = true then (1 : Int) else 0) = if 2 ^ n.toNat ≤ 2 * (wo % 2 ^ n.toNat) then 1 else 0 := by rw [hneg]; simp only [decide_eq_true_eq]
    simp only [↓cmr2,↓cmi2,e,decide_true,notT,↓opr,↓brCF]
    simp only [seq_next]
    simp only [↓wq2,stepS,↓sir7,↓wq1,↓ser5,↓ser11h,↓evr2,↓ser2,List.getElem?_cons_succ,List.getElem?_cons_zero,↓evr1,↓callH t113,↓ser4,↓ser1,view,↓biv1,↓bii9,↓bii4]
    refine ⟨_,_,_,rfl,by omega,by omega,by lia,by lia,?_⟩
    simp only [← hd,fm _ (Int.le_of_lt hp2)]
    simp only [↓cmr2,↓cmi1,decide_true,seqQ,↓opr]
    exact ⟨⟨by omega,by lia,by decide⟩,Int.ne_of_gt hp2,q⟩
  simp only [↓wq2,stepS,↓sir1,↓wq1,↓ser10,↓ser5,↓ser4,↓ser1,↓ser2,List.getElem?_cons_succ,List.getElem?_cons_zero,↓vwi3,↓vwi9,↓vci6,↓isr,↓vwi2,sek1,List.set_cons_succ,List.set_cons_zero,↓opr,true_and]
  have h2 := Int.emod_nonneg wo (Int.ne_of_gt hp)
  have h3 := Int.emod_lt_of_pos wo hp
  have b2 : Builtin.Int.intBits 2 ≤ shortFactorBits := by decide +kernel
  refine ⟨mul_ok (.inl b2),⟨by (exact Int.le_of_lt (by assumption)),by (exact Int.le_trans (by assumption) (by decide)),by decide⟩,brB_of (fun hc => ⟨⟨by (exact Int.le_of_lt (by assumption)),by omega,of_decide_eq_true rfl⟩,?_⟩) fun hc => ?_⟩
  · have hc := of_decide_eq_true hc
    simp only [seq_next]
    refine cont _ (by unfold sgn; rw [if_pos hc]) ?_
    rw [decide_eq_true hc,decide_eq_true (by lia)]
  · have hc := of_decide_eq_false hc
    simp only [seq_next]
    refine cont _ (by unfold sgn; rw [if_neg hc]) ?_
    rw [decide_eq_false hc,decide_eq_false (by lia)]
end
mutual
noncomputable def noMu : AV → Bool
  | .mu _ => false
  | .tup xs => noMuL xs
  | .lst xs => noMuL xs
  | .inst _ xs => noMuL xs
  | .ext xs => noMuL xs
  | .fn _ xs => noMuL xs
  | _ => true
noncomputable def noMuL : List AV → Bool
  | [] => true
  | v :: r => noMu v && noMuL r
end
theorem Rs.still {P : Params} {I : Led} {xs : List Addr} {l : List AV} {R : List Value} (h : Rs P I xs l R) : noMuL l = true → Rs P I [] l R := by
  induction h with
  | nil => intro _; exact .nil
  | none _ ih => intro e; have e := and2 e; exact .none (ih e.2)
  | bool b _ ih => intro e; have e := and2 e; exact .bool b (ih e.2)
  | int n t _ ih => intro e; have e := and2 e; exact .int n t (ih e.2)
  | str x t _ ih => intro e; have e := and2 e; exact .str x t (ih e.2)
  | bytes ns b t e' _ ih => intro e; have e := and2 e; exact .bytes ns b t e' (ih e.2)
  | tup m _ _ i1 i2 => intro e; have e := and2 e; exact .tup m (i1 e.1) (i2 e.2)
  | lst m _ _ i1 i2 => intro e; have e := and2 e; exact .lst m (i1 e.1) (i2 e.2)
  | inst m1 m2 e' _ _ i1 i2 => intro e; have e := and2 e; exact .inst m1 m2 e' (i1 e.1) (i2 e.2)
  | mu e' _ ih => intro e; exact falseX (and2 e).1
  | val w _ ih => intro e; have e := and2 e; exact .val w (ih e.2)
  | rng m _ ih => intro e; have e := and2 e; exact .rng m (ih e.2)
  | ext m hc hd _ _ i1 i2 => intro e; have e := and2 e; exact .ext m hc hd (i1 e.1) (i2 e.2)
  | fn m _ _ i1 i2 => intro e; have e := and2 e; exact .fn m (i1 e.1) (i2 e.2)
theorem still1 {v : AV} (h : noMu v = true) (P : Params) (I : Led) (l : List Addr) (V : Value) (r : RepV P I l v V) : RepV P I [] v V := r.still (show (noMu v && true) = true by rw [h]; rfl)
theorem stillL {v : List AV} (h : noMuL v = true) (P : Params) (I : Led) (l : List Addr) (V : List Value) (r : Rs P I l v V) : Rs P I [] v V := r.still h
noncomputable abbrev ApS := List IS → Loc → List AV → Option (Loc × List AV)
theorem bindS {α β : Type} {o : Option α} {k : α → Option β} {v : β} (h : o.bind k = some v) : ∃ a,o = some a ∧ k a = some v := by
  cases o with
  | none => exact noneX h
  | some a => exact ⟨a,rfl,h⟩
theorem ifS {β : Type} {c : Bool} {a : Option β} {v : β} (h : (if c then a else none) = some v) : c = true ∧ a = some v := by
  cases c with
  | false => exact noneX h
  | true => exact ⟨rfl,h⟩
noncomputable def forA (g : ApS) (ks : Ks) (one : Bool) (b : List IS) : List AV → Loc → List AV → Option (Loc × List AV)
  | [],l,acc => some (l,acc)
  | v :: vs,l,acc => (bindT ks one v l).bind fun l1 => (g b l1 acc).bind fun z => forA g ks one b vs z.1 z.2
noncomputable def isOk (r : ER AV) : Option AV := match r with | .ok v => some v | _ => none
noncomputable def tgt0 (ks : Ks) : Bool := ks.all fun k => k.1 != 0
noncomputable def apE (e : IE) : Option IE := match e with
  | .smeth s o es => (match s with
    | .append => (match o with
      | .loc k => if k == 0 then one1 es else none
      | _ => none)
    | _ => none)
  | _ => none
theorem apE_eq {e e1 : IE} (h : apE e = some e1) : e = .smeth .append (.loc 0) [e1] := by
  cases e <;> first | exact noneX h | skip
  rename_i s o es
  cases s <;> first | exact noneX h | skip
  cases o <;> first | exact noneX h | skip
  rename_i k
  have h := ifS h
  simp only [one1_eq h.2,eq_of_beq h.1]
noncomputable def lstA (v : AV) : Option (List AV) := match v with | .lst vs => some vs | _ => none
theorem lstA_eq {v : AV} {vs : List AV} (h : lstA v = some vs) : v = .lst vs := by
  cases v <;> first | exact noneX h | skip
  rw [Option.some.inj h]
noncomputable def apI (f f1 : EvE) (g : ApS) (r : List IS) (l : Loc) (acc : List AV) (i : IS) : Option (Loc × List AV) := match i with
  | .ex e => (apE e).bind fun e => (isOk (f1 e l)).bind fun v => if noMu v && decide (acc.length ≤ 1000) then g r l (acc ++ [v]) else none
  | .forS ks one it b => if tgt0 ks then (isOk (f it l)).bind fun v => (itemsOf v).bind fun vs => (forA g ks one b vs l acc).bind fun z => g r z.1 z.2 else none
  | .forE ki kv it b => if tgt0 [(ki,false),(kv,false)] then (isOk (f it l)).bind fun v => (lstA v).bind fun vs => (forA g [(ki,false),(kv,false)] false b (enumL 0 vs) l acc).bind fun z => g r z.1 z.2 else none
  | _ => none
noncomputable def apStep (f f1 : EvE) (g : ApS) : ApS := fun b l acc => match b with
  | [] => some (l,acc)
  | i :: r => apI f f1 g r l acc i
noncomputable def apq (C : EvF) : Nat → ApS := fun n => Nat.rec (fun _ _ _ => none) (fun n r => apStep (evq C n).1 (match n with | 0 => fun _ _ => .no | m + 1 => (evq C m).1) r) n
theorem isOk_eq {r : ER AV} {v : AV} (h : isOk r = some v) : r = .ok v := by
  cases r <;> first | exact noneX h | skip
  rw [Option.some.inj h]
noncomputable def noC : EvF := fun _ _ => .no
section
variable {T : Nat → Option Con} {H : MH}
noncomputable def SimA (a : ApS) (g : SF) (H : MH) : Prop := ∀ b l acc l' acc',l[0]? = some (some (.mu H.length)) → a b l acc = some (l',acc') → l'[0]? = some (some (.mu H.length)) ∧ ∀ Q X,Q .next l' (H ++ [acc']) → g b l (H ++ [acc]) Q X
theorem setK_0 {k : Nat} {c : Bool} {v : AV} {l l1 : Loc} (h : setK k c v l = some l1) (hk : k ≠ 0) : l1[0]? = l[0]? := by
  have key : l1 = l.set k (some v) := by
    cases c with
    | false => exact (Option.some.inj h).symm
    | true =>
      have h : (match l[k]? with | some none => some (l.set k (some v)) | _ => none) = some l1 := h
      rcases hl : l[k]? with _ | _ | w
      · rw [hl] at h; exact noneX h
      · rw [hl] at h; exact (Option.some.inj h).symm
      · rw [hl] at h; exact noneX h
  rw [key,List.getElem?_set_ne hk]
theorem tgt0_c {k : Nat × Bool} {ks : Ks} (h : tgt0 (k :: ks) = true) : k.1 ≠ 0 ∧ tgt0 ks = true :=
  ⟨bne_iff_ne.mp (and2 h).1,(and2 h).2⟩
theorem setAll_0 {ks : Ks} : ∀ {vs : List AV} {l l1 : Loc},setAll ks vs l = some l1 → tgt0 ks = true → l1[0]? = l[0]? := by
  induction ks with
  | nil =>
    intro vs l l1 h _
    cases vs with
    | nil => rw [Option.some.inj h]
    | cons v vs => exact noneX h
  | cons k ks ih =>
    intro vs l l1 h ht
    cases vs with
    | nil => exact noneX h
    | cons v vs =>
      obtain ⟨l2,h2,h⟩ := setAll_c h
      rw [ih h (tgt0_c ht).2,setK_0 h2 (tgt0_c ht).1]
theorem bindT_0 {ks : Ks} {one : Bool} {v : AV} {l l1 : Loc} (h : bindT ks one v l = some l1) (ht : tgt0 ks = true) : l1[0]? = l[0]? := by
  cases one with
  | false => cases v <;> first | exact noneX h | exact setAll_0 h ht
  | true =>
    rcases ks with _ | ⟨k,_ | ⟨k2,r⟩⟩
    · exact noneX h
    · exact setK_0 h (tgt0_c ht).1
    · exact noneX h
theorem forA_ok {a : ApS} {g : SF} (h : SimA a g H) {ks : Ks} (ht : tgt0 ks = true) {one : Bool} {b : List IS} {vs : List AV} : ∀ {l : Loc} {acc : List AV} {l' : Loc} {acc' : List AV},l[0]? = some (some (.mu H.length)) → forA a ks one b vs l acc = some (l',acc') →
    l'[0]? = some (some (.mu H.length)) ∧ ∀ Q X,Q .next l' (H ++ [acc']) → forI g ks one b X vs l (H ++ [acc]) Q := by
  induction vs with
  | nil => intro l acc l' acc' h0 e; cases Option.some.inj e; exact ⟨h0,fun Q X q => q⟩
  | cons v vs ih =>
    intro l acc l' acc' h0 e
    obtain ⟨l1,hb,e⟩ := bindS e
    obtain ⟨z,hg,e⟩ := bindS e
    have k := h b l1 acc z.1 z.2 (by rw [bindT_0 hb ht]; exact h0) hg
    have j := ih k.1 e
    refine ⟨j.1,fun Q X q => ?_⟩
    show optP (bindT ks one v l) _
    rw [hb]
    exact k.2 _ _ (j.2 Q X q)
theorem getH {H : MH} {acc : List AV} : (H ++ [acc])[H.length]? = some acc := by rw [List.getElem?_append_right (Nat.le_refl _)]; simp
theorem setH {H : MH} {acc acc' : List AV} : (H ++ [acc]).set H.length acc' = H ++ [acc'] := by rw [List.set_append_right _ _ (Nat.le_refl _)]; simp
noncomputable def App (f1 : EvE) (f : EF) (H : MH) : Prop := ∀ e l acc v,l[0]? = some (some (.mu H.length)) → f1 e l = .ok v → noMu v = true → acc.length ≤ 1000 → ∀ Q X,Q .none (H ++ [acc ++ [v]]) → f (.smeth .append (.loc 0) [e]) l (H ++ [acc]) Q X
theorem apStep_ok {fe f1 : EvE} {f : EF} {a : ApS} {g : SF} (he : SimE fe f) (ha : App f1 f H) (h : SimA a g H) : SimA (apStep fe f1 a) (stepS true f g f g) H := by
  intro b l acc l' acc' h0 e
  cases b with
  | nil => cases Option.some.inj e; exact ⟨h0,fun Q X q => q⟩
  | cons i r =>
    cases i with
    | ex e1 =>
      obtain ⟨e2,he2,e3⟩ := bindS e
      obtain ⟨v,hv,e4⟩ := bindS e3
      have e5 := ifS e4
      have hc := and2 e5.1
      have k := h r l (acc ++ [v]) l' acc' h0 e5.2
      rw [apE_eq he2]
      exact ⟨k.1,fun Q X q => ha _ _ _ _ h0 (isOk_eq hv) hc.1 (of_decide_eq_true hc.2) (fun _ H1 => seqQ g r Q X .next l H1) X (k.2 Q X q)⟩
    | forS ks one it b =>
      obtain ⟨ht,e⟩ := ifS e
      obtain ⟨v,hv,e⟩ := bindS e
      obtain ⟨vs,hvs,e⟩ := bindS e
      obtain ⟨z,hf,e⟩ := bindS e
      have j := forA_ok h ht h0 hf
      have k := h r z.1 z.2 l' acc' j.1 e
      refine ⟨k.1,fun Q X q => ?_⟩
      show f it l (H ++ [acc]) (fun v H1 => optP (itemsOf v) fun vs => forI g ks one b X vs l H1 (seqQ g r Q X)) X
      refine he _ _ _ _ _ ?_
      rw [isOk_eq hv]
      show optP (itemsOf v) _
      simp only [hvs]
      exact j.2 _ X (k.2 Q X q)
    | forE ki kv it b =>
      obtain ⟨ht,e⟩ := ifS e
      obtain ⟨v,hv,e⟩ := bindS e
      obtain ⟨vs,hvs,e⟩ := bindS e
      obtain ⟨z,hf,e⟩ := bindS e
      have j := forA_ok h ht h0 hf
      have k := h r z.1 z.2 l' acc' j.1 e
      refine ⟨k.1,fun Q X q => he _ _ _ _ _ ?_⟩
      rw [isOk_eq hv,lstA_eq hvs]
      exact j.2 _ X (k.2 Q X q)
    | _ => exact noneX e
theorem app_ok {C : EvF} (hC : SimC C T) : ∀ n,App (match n with | 0 => fun _ _ => .no | m + 1 => (evq C m).1) (wpq T n).1 H
  | 0 => fun e l acc v h0 hv => by cases hv
  | 1 => fun e l acc v h0 hv => by cases hv
  | m + 2 => fun e l acc v h0 hv hn hl Q X q => by
    show (match l[0]? with | some (some v) => _ | _ => False)
    simp only [h0]
    refine ⟨trivial,(evq_ok hC (m + 1)).1 _ _ _ _ _ ?_⟩
    have hv : (evq C (m + 1)).1 e l = .ok v := hv
    rw [hv]
    show optP (H ++ [acc])[H.length]? _
    simp only [getH]
    refine ⟨by (exact Nat.le_trans (by assumption) (by decide)),still1 hn,?_⟩
    show Q .none ((H ++ [acc]).set H.length (acc ++ [v]))
    rw [setH]
    exact q
theorem apq_ok {C : EvF} (hC : SimC C T) : ∀ n,SimA (apq C n) (wpq T n).2 H
  | 0 => fun b l acc l' acc' h0 e => by exact noneX e
  | n + 1 => apStep_ok (evq_ok hC n).1 (app_ok hC n) (apq_ok hC n)
theorem simC_no : SimC noC T := fun g args H Q X h => h.elim
end
section
variable {T : Nat → Option Con} {args : List AV} {H : MH} {Q : AV → MH → Prop} {X : Nat → MH → Prop}
noncomputable def forX (n : Nat) (ks : Ks) (one : Bool) (it : IE) (b : List IS) (l : Loc) (acc : List AV) : Option (Loc × List AV) := (isOk ((evq noC n).1 it l)).bind fun v => (itemsOf v).bind fun vs => if tgt0 ks then forA (apq noC n) ks one b vs l acc else none
theorem for_step {n : Nat} {ks : Ks} {one : Bool} {it : IE} {b r : List IS} {l l' : Loc} {acc acc' : List AV} {Q : FL → Loc → MH → Prop} (h0 : l[0]? = some (some (.mu H.length))) (hf : forX n ks one it b l acc = some (l',acc')) (q : (wpq T n).2 r l' (H ++ [acc']) Q X) : (wpq T (n + 1)).2 (.forS ks one it b :: r) l (H ++ [acc]) Q X := by
  obtain ⟨v,hv,hf⟩ := bindS hf
  obtain ⟨vs,hvs,hf⟩ := bindS hf
  obtain ⟨ht,hf⟩ := ifS hf
  refine (evq_ok simC_no n).1 _ _ _ _ _ ?_
  simp only [isOk_eq hv]
  show optP (itemsOf v) _
  simp only [hvs]
  exact (forA_ok (apq_ok simC_no n) ht h0 hf).2 _ X q
noncomputable def forY (n : Nat) (ki kv : Nat) (it : IE) (b : List IS) (l : Loc) (acc : List AV) : Option (Loc × List AV) := (isOk ((evq noC n).1 it l)).bind fun v => (lstA v).bind fun vs => if tgt0 [(ki,false),(kv,false)] then forA (apq noC n) [(ki,false),(kv,false)] false b (enumL 0 vs) l acc else none
theorem forE_step {n : Nat} {ki kv : Nat} {it : IE} {b r : List IS} {l l' : Loc} {acc acc' : List AV} {Q : FL → Loc → MH → Prop} (h0 : l[0]? = some (some (.mu H.length))) (hf : forY n ki kv it b l acc = some (l',acc')) (q : (wpq T n).2 r l' (H ++ [acc']) Q X) : (wpq T (n + 1)).2 (.forE ki kv it b :: r) l (H ++ [acc]) Q X := by
  obtain ⟨v,hv,hf⟩ := bindS hf
  obtain ⟨vs,hvs,hf⟩ := bindS hf
  obtain ⟨ht,hf⟩ := ifS hf
  refine (evq_ok simC_no n).1 _ _ _ _ _ ?_
  rw [isOk_eq hv,lstA_eq hvs]
  exact (forA_ok (apq_ok simC_no n) ht h0 hf).2 _ X q
noncomputable def stemsV : AV := .lst [.str "ax",.str "cx",.str "dx",.str "bx",.str "sp",.str "bp",.str "si",.str "di"]
noncomputable def lowsV : AV := .lst [.str "al",.str "cl",.str "dl",.str "bl",.str "spl",.str "bpl",.str "sil",.str "dil"]
noncomputable def tl (k : Nat) (a b c d : Option AV) : Loc := [some (.mu k),some stemsV,some lowsV,a,b,c,d]
noncomputable def tabC : Con := fun args H Q X => args = [] ∧ ∀ l,Q (.lst rowsL) (H ++ [l])
theorem tab_wp (h : tabC args H Q X) : Body T lo_law_table ir_law_table args H Q X := by
  obtain ⟨rfl,q⟩ := h
  refine ⟨rfl,?_⟩
  simp only [ir_law_table,mapN,lo_law_table,List.length_cons,List.length_nil,Nat.reduceAdd,Nat.reduceSub,List.replicate,List.nil_append,↓wq2,↓stepS,↓sir2,↓opr,rv1,rv2,rv3,rv0,List.cons_append,↓wq1,↓ser18,↓evr1,↓evr2,sea1,sea2,sea3,sek1,sek2,List.set_cons_succ,List.set_cons_zero,↓ser19,↓ser1,↓isr]
  refine ⟨by decide,(fun P I xs Vs h => stillL rfl _ _ _ _ h),by decide,by decide,?_⟩
  simp only [seq_next]
  simp only [↓wq2,↓stepS,↓sir1,↓opr,sek1,sek2,List.set_cons_succ,List.set_cons_zero,↓wq1,↓ser19,↓evr1,↓evr2,List.length_cons,List.length_nil,Nat.reduceAdd,↓ser1,↓isr]
  refine ⟨of_decide_eq_true rfl,?_⟩
  simp only [seq_next]
  refine for_step (l' := tl H.length (some (.int 7)) none none none) (acc' := rowsL.take 32) rfl ?l1 ?_
  case l1 => generalize H.length = k; kernel_rfl
  refine for_step (l' := tl H.length (some (.int 15)) (some (.str "")) (some (.int 64)) none) (acc' := rowsL.take 64) rfl ?l2 ?_
  case l2 => generalize H.length = k; kernel_rfl
  refine forE_step (l' := tl H.length (some (.int 3)) (some (.str "")) (some (.int 64)) (some (.str "bh"))) (acc' := rowsL.take 68) rfl ?l3 ?_
  case l3 => generalize H.length = k; kernel_rfl
  have hc : compsC (evq noC 18).1 (.tup [.bin .Add (.c (.str "xmm")) (.bcall .str [.loc 0]),.c (.str "xmm"),.loc 0,.c (.int 0),.c (.int 128)]) none [] ((List.range 16).map fun (i : Nat) => AV.int (0 + (i : Int) * 1)) [] = some (rowsL.drop 68) := by kernel_rfl
  have hi : itemsOf (.rng 0 16 1) = some ((List.range 16).map fun (i : Nat) => AV.int (0 + (i : Int) * 1)) := by kernel_rfl
  simp only [↓wq2,stepS,↓sir7,↓wq1,↓ser4,↓ser2,tl,List.getElem?_cons_zero,↓ser20,↓ser12,↓evr2,↓ser1,↓evr1,mapC,view,mapN,↓bfr11,hi,↓opr]
  refine ⟨of_decide_eq_true rfl,?_⟩
  refine comps_ok (evq_ok simC_no 18).1 hc ?_
  simp only [getH,↓biv4,↓opr,↓isr]
  rw [List.take_append_drop]
  refine ⟨?_,q _⟩
  have : rowsL.length = 84 := by kernel_rfl
  simp only [List.length_take,List.length_drop,this]
  decide
noncomputable def regL (s : Int) : List AV := rowsL.filterMap fun v => match v with | .tup [.str nm,.str kd,.int n,.int _,.int z] => if z = s then some (regV nm kd n z) else none | _ => none
noncomputable def allC : Con := fun args H Q X => ∃ s : Int,args = [.int s] ∧ (s = 8 ∨ s = 16 ∨ s = 32 ∨ s = 64) ∧ Q (.mu H.length) (H ++ [regL s])
noncomputable def allC2 : Con := fun args H Q X => args = [.int 128] ∧ Q (.lst (regL 128)) H
noncomputable def onC (gs : List Nat) : EvF := fun g a => if gs.contains g then runF 8 g a else .no
theorem simC_on {T : Nat → Option Con} {gs : List Nat} (h : ∀ g ∈ gs,T g = some (evCon 8 g)) : SimC (onC gs) T := fun g args H Q X hh => by
  unfold onC at hh
  split at hh
  · rename_i hg
    rw [h g (by simpa using hg)]
    exact hh
  · exact hh.elim
theorem it16 : itemsOf (.rng 0 16 1) = some ((List.range 16).map fun (i : Nat) => AV.int (0 + (i : Int) * 1)) := by kernel_rfl
theorem it48 : itemsOf (.rng 4 8 1) = some ((List.range 4).map fun (i : Nat) => AV.int (4 + (i : Int) * 1)) := by kernel_rfl
theorem all_wp2 (t242 : T 242 = some (evCon 8 242)) (h : allC2 args H Q X) : Body T lo_all_registers ir_all_registers args H Q X := by
  obtain ⟨rfl,q⟩ := h
  refine ⟨rfl,?_⟩
  simp only [↓wq2,stepS,ir_all_registers,↓sir4,↓wq1,↓ser5,↓ser2,mapC,mapN,lo_all_registers,List.length_cons,List.length_nil,Nat.reduceAdd,Nat.reduceSub,List.replicate,List.cons_append,List.nil_append,List.getElem?_cons_zero,↓ser1,↓vci1,↓isr,decide_true,↓sir7,↓ser20,↓ser12,↓evr2,↓evr1,view,↓bfr11,it16,↓opr,↓brT]
  refine ⟨of_decide_eq_true rfl,?_⟩
  refine comps_ok (evq_ok (C := onC [242]) (simC_on (by simpa using t242)) 23).1 (ys := regL 128) (by kernel_rfl) ?_
  exact q
theorem all_wp (t221 : T 221 = some (evCon 8 221)) (t228 : T 228 = some (evCon 8 228)) (h : allC args H Q X) : Body T lo_all_registers ir_all_registers args H Q X := by
  obtain ⟨s,rfl,hs,q⟩ := h
  refine ⟨rfl,?_⟩
  have h128 : decide (s = 128) = false := by rw [decide_eq_false]; lia
  have hC := simC_on (T := T) (gs := [221,228]) (by intro g hg; simp only [List.mem_cons,List.not_mem_nil,or_false] at hg; rcases hg with rfl | rfl <;> assumption)
  simp only [↓wq2,stepS,ir_all_registers,↓sir4,↓wq1,↓ser5,↓ser2,mapC,mapN,lo_all_registers,List.length_cons,List.length_nil,Nat.reduceAdd,Nat.reduceSub,List.replicate,List.cons_append,List.nil_append,List.getElem?_cons_zero,↓ser1,↓vci1,↓isr,h128,↓sir7,↓ser20,↓ser12,↓evr2,↓evr1,view,seqQ,↓bfr11,it16,↓opr,↓sir1,sek1,List.set_cons_succ,List.set_cons_zero,↓sir8,↓ser14,↓bfr12,it48,↓cmr2,↓cmi1,List.getElem?_cons_succ,↓brF]
  refine ⟨of_decide_eq_true rfl,?_⟩
  rcases hs with rfl | rfl | rfl | rfl
  · refine comps_ok (evq_ok hC 23).1 (ys := (regL 8).take 16) (by kernel_rfl) ?_
    refine ⟨(fun P I xs Vs h => stillL (by kernel_rfl) _ _ _ _ h),?_⟩
    simp only [decide_true,↓brT,↓opr,↓isr]
    refine ⟨trivial,of_decide_eq_true rfl,?_⟩
    refine comps_ok (evq_ok hC 20).1 (ys := (regL 8).drop 16) (by kernel_rfl) ?_
    simp only [smr1,smr2,smr3,smr4,smr5,smr6,smr7,smr8,avl,getH,setH,↓opr,↓isr]
    refine ⟨⟨?_,?_,?_⟩,(fun P I xs Vs h => stillL (by kernel_rfl) _ _ _ _ h),?_⟩
    · exact Nat.le_trans (by rw [List.length_take]; exact Nat.min_le_left _ _) (by decide : 16 ≤ 100000)
    · have : (regL 8).length = 20 := by kernel_rfl
      rw [List.length_drop,this]; decide
    · have : (regL 8).length = 20 := by kernel_rfl
      intro e
      have := congrArg List.length e
      rw [List.length_drop] at this
      simp_all
    · rw [List.take_append_drop]; exact q
  · refine comps_ok (evq_ok hC 23).1 (ys := regL 16) (by kernel_rfl) ?_
    refine ⟨(fun P I xs Vs h => stillL (by kernel_rfl) _ _ _ _ h),brB_f q⟩
  · refine comps_ok (evq_ok hC 23).1 (ys := regL 32) (by kernel_rfl) ?_
    refine ⟨(fun P I xs Vs h => stillL (by kernel_rfl) _ _ _ _ h),brB_f q⟩
  · refine comps_ok (evq_ok hC 23).1 (ys := regL 64) (by kernel_rfl) ?_
    refine ⟨(fun P I xs Vs h => stillL (by kernel_rfl) _ _ _ _ h),brB_f q⟩
end
noncomputable def lowN (c : Nat) : Nat := if 65 ≤ c ∧ c ≤ 90 then c + 32 else c
noncomputable def upN (c : Nat) : Nat := if 97 ≤ c ∧ c ≤ 122 then c - 32 else c
noncomputable def hexN (k : Nat) : Nat := if k < 10 then 48 + k else 87 + k
noncomputable def figS : Str := "0123456789abcdef"
noncomputable def strN (ts : List Nat) : Str := ⟨ts.toArray⟩
noncomputable def valN (c : Nat) : Int := Txt.find figS (strN [c])
theorem low_ascii : ((List.range 128).all fun c => Unicode.lowerOf c == [lowN c] && Unicode.upperOf c == [upN c]) = true := by kernel_rfl
theorem low_a {c : Nat} (h : c < 128) : Unicode.lowerOf c = [lowN c] ∧ Unicode.upperOf c = [upN c] := by
  have := List.all_eq_true.mp low_ascii c (List.mem_range.mpr h)
  rw [Bool.and_eq_true,beq_iff_eq,beq_iff_eq] at this
  exact this
theorem placed_map {ts : List Nat} {f : Nat → Nat → List Nat} {g : Nat → Nat} (h : ∀ i c,ts[i]? = some c → f i c = [g c]) : (⟨placed (strN ts) f⟩ : Str) = strN (ts.map g) := by
  unfold placed strN
  congr 1
  have e : (ts.toArray.mapIdx fun i c => (f i c).toArray) = (ts.map fun c => #[g c]).toArray := by
    apply Array.ext_getElem?
    intro i
    simp only [Array.getElem?_mapIdx,List.getElem?_toArray,List.getElem?_map,↓opr,↓isr]
    cases e : ts[i]? with
    | none => rfl
    | some c => show some (f i c).toArray = some #[g c]; rw [h i c e]
  show (ts.toArray.mapIdx fun i c => (f i c).toArray).flatten = _
  rw [e]
  clear e h
  induction ts with
  | nil => rfl
  | cons c r ih => simp_all
theorem lower_a {ts : List Nat} (h : ∀ c ∈ ts,c < 128) : Txt.lower (strN ts) = strN (ts.map lowN) := by
  unfold Txt.lower
  refine placed_map fun i c e => ?_
  have hc := h c (List.mem_of_getElem? e)
  unfold Unicode.lowerAt
  show (match (strN ts).cps[i]? with | none => [] | some c => _) = _
  have : (strN ts).cps[i]? = some c := by unfold strN; simp [e]
  rw [this]
  dsimp only
  rw [if_neg,(low_a hc).1]
  have : (c == 931) = false := by rw [beq_eq_false_iff_ne]; lia
  rw [this]
  simp
theorem upper_a {ts : List Nat} (h : ∀ c ∈ ts,c < 128) : Txt.upper (strN ts) = strN (ts.map upN) := by
  unfold Txt.upper
  exact placed_map fun i c e => (low_a (h c (List.mem_of_getElem? e))).2
theorem strN_app {a b : List Nat} : strN a ++ strN b = strN (a ++ b) := by
  show (⟨a.toArray ++ b.toArray⟩ : Str) = ⟨(a ++ b).toArray⟩
  simp
theorem strN_len {a : List Nat} : (strN a).length = a.length := by show a.toArray.size = _; simp
theorem strN_mul {c : Nat} {n : Int} (h0 : 0 ≤ n) (h1 : n < 2) : Txt.mul (strN [c]) n = strN (List.replicate n.toNat c) := by
  obtain rfl | rfl : n = 0 ∨ n = 1 := by lia
  · rfl
  · rfl
noncomputable def digitsN : List Nat → Option (List Int)
  | [] => some []
  | c :: r => if lowN c = 32 then digitsN r else if valN (lowN c) < 0 then none else (digitsN r).map (valN (lowN c) :: ·)
theorem digitsN_c {c : Nat} {r : List Nat} : digitsN (c :: r) = if lowN c = 32 then digitsN r else if valN (lowN c) < 0 then none else (digitsN r).map (valN (lowN c) :: ·) := rfl
theorem digits_app : ∀ {a b : List Nat},digitsN (a ++ b) = (digitsN a).bind fun x => (digitsN b).map (x ++ ·)
  | [],b => by show digitsN b = (digitsN b).map fun x => x; cases digitsN b <;> rfl
  | c :: r,b => by
    rw [List.cons_append,digitsN_c,digitsN_c]
    split
    · exact digits_app
    · split
      · rfl
      · rw [digits_app]
        cases digitsN r <;> cases digitsN b <;> simp
noncomputable def pairsN : List Int → List Int
  | a :: b :: r => (16 * a + b) :: pairsN r
  | _ => []
theorem pairsN_c {a b : Int} {r : List Int} : pairsN (a :: b :: r) = (16 * a + b) :: pairsN r := rfl
noncomputable def hexs (ns : List Int) : List Nat := ns.flatMap fun n => [hexN (n / 16).toNat,hexN (n % 16).toNat]
theorem hex_ok : ((List.range 16).all fun k => decide (hexN k < 128) && decide (lowN (hexN k) = hexN k) && decide (lowN (upN (hexN k)) = hexN k) && decide (upN (hexN k) < 128) && decide (hexN k ≠ 32) && decide (valN (hexN k) = k) && decide (Txt.item figS (k : Int) = strN [hexN k])) = true := by kernel_rfl
theorem hexI {k : Int} (h0 : 0 ≤ k) (h1 : k < 16) : hexN k.toNat < 128 ∧ lowN (hexN k.toNat) = hexN k.toNat ∧ lowN (upN (hexN k.toNat)) = hexN k.toNat ∧ upN (hexN k.toNat) < 128 ∧ hexN k.toNat ≠ 32 ∧ valN (hexN k.toNat) = k ∧ Txt.item figS k = strN [hexN k.toNat] := by
  have := List.all_eq_true.mp hex_ok k.toNat (List.mem_range.mpr ((Int.toNat_lt h0).mpr h1))
  simp only [Bool.and_eq_true,decide_eq_true_eq] at this
  refine byC fun no9 => ?_
  obtain ⟨⟨⟨⟨⟨⟨a,b⟩,c⟩,d⟩,e⟩,f⟩,g⟩ := this
  refine no9 ?_
  clear no9
  rw [Int.toNat_of_nonneg h0] at f g
  exact ⟨a,b,c,d,e,f,g⟩
theorem figS_len : figS.length = 16 := by kernel_rfl
theorem gfig : gtab[0]? = some (("FIGURES" : Str),AV.str figS) := by kernel_rfl
section
variable {T : Nat → Option Con} {args : List AV} {H : MH} {Q : AV → MH → Prop} {X : Nat → MH → Prop}
noncomputable def figT (w : Int) : Str := strN [hexN (w / 16).toNat,hexN (w % 16).toNat]
noncomputable def figC : Con := fun args H Q X => ∃ w,args = [.int w,.int 2] ∧ 0 ≤ w ∧ w < 256 ∧ Q (.str (figT w)) H
noncomputable def figL (w : Int) (x : Str) (r : Int) : Loc := [some (.int w),some (.int 2),some (.str x),some (.int r)]
noncomputable def figTest : IE := .or [.cmp (.loc 3) .Gt (.c (.int 0)),.cmp (.bcall .len [.loc 2]) .Lt (.loc 1)]
noncomputable def figBody : List IS := [.asg 2 false (.bin .Add (.idx (.g 0) (.bin .BitAnd (.loc 3) (.c (.int 15)))) (.loc 2)),.asg 3 false (.bin .RShift (.loc 3) (.c (.int 4)))]
theorem nib0 (n : Int) : 0 ≤ n % 16 := Int.emod_nonneg n (by decide)
theorem nib1 (n : Int) : n % 16 < 16 := Int.emod_lt_of_pos n (by decide)
theorem nib2 {n : Int} (h : 0 ≤ n) : 0 ≤ n / 16 := Int.ediv_nonneg h (by decide)
theorem nib3 {n : Int} (h : n < 256) : n / 16 < 16 := Int.ediv_lt_of_lt_mul (by decide) h
theorem figT_sum {ns : List Int} : ((ns.map figT).map (·.length)).sum ≤ 2 * ns.length := by
  induction ns with
  | nil => decide
  | cons n r ih => simp only [mapC,List.sum_cons,List.length_cons]; rw [Nat.add_comm]; exact Nat.add_le_add_right ih 2
theorem fig_turn {w r : Int} {x : Str} {n k : Nat} {Q : FL → Loc → MH → Prop} (h0 : 0 ≤ r) (hx : x.length < 2)
    (h : whileI (wpq T (k + 8)).1 (wpq T (k + 8)).2 figTest figBody X n (figL w (strN [hexN (r % 16).toNat] ++ x) (r / 16)) H Q) : whileI (wpq T (k + 8)).1 (wpq T (k + 8)).2 figTest figBody X (n + 1) (figL w x r) H Q := by
  have a1 : Builtin.bitAnd r 15 = r % 16 := bitAnd_mask r 4
  have a2 : r.fdiv (2 ^ 4) = r / 16 := by
    have : (2 : Int) ^ 4 = 16 := by decide
    rw [this,fd _ (by decide)]
  have b1 := hexI (nib0 r) (nib1 r)
  have hd : decide ((x.length : Int) < 2) = true := decide_eq_true ((Int.ofNat_lt (m := 2)).mpr hx)
  have hb : ∀ Q2 : FL → Loc → MH → Prop,Q2 .next (figL w (strN [hexN (r % 16).toNat] ++ x) (r / 16)) H → (wpq T (k + 8)).2 figBody (figL w x r) H Q2 X := by
    intro Q2 q2
    simp only [↓wq2,stepS,figBody,↓sir1,↓wq1,↓ser4,↓ser16,↓ser3,gfig,↓ser2,figL,List.getElem?_cons_succ,List.getElem?_cons_zero,↓ser1,↓vwi8,↓vid3,a1,↓vws,sek1,List.set_cons_succ,List.set_cons_zero,↓opr,true_and]
    have hl : (Txt.item figS (r % 16)).length = 1 := by rw [b1.2.2.2.2.2.2,strN_len]; rfl
    refine ⟨⟨nib0 r,by rw [figS_len]; exact nib1 r,by rw [figS_len]; decide⟩,?_,?_⟩
    · rw [hl,sizeLine_eq]
      exact Le.too 3 (Nat.add_le_add_left (Nat.le_of_lt hx) 1) rfl
    simp only [seq_next]
    simp only [↓wq2,stepS,↓sir1,↓wq1,↓ser4,↓ser2,List.getElem?_cons_succ,List.getElem?_cons_zero,↓ser1,↓vwi7,Int.reduceToNat,a2,sek1,List.set_cons_succ,List.set_cons_zero,↓opr]
    refine ⟨by decide,?_⟩
    simp only [seq_next]
    rw [b1.2.2.2.2.2.2]
    exact q2
  have ht : ∀ Q1 : AV → MH → Prop,Q1 (.bool true) H → (wpq T (k + 8)).1 figTest (figL w x r) H Q1 X := by
    intro Q1 q1
    simp only [↓wq1,figTest,figL,↓ser9,↓orr2,↓ser5,↓ser2,List.getElem?_cons_succ,List.getElem?_cons_zero,↓ser1,↓vci5,↓isr,↓orr1,↓ser12,↓evr2,↓evr1,mapC,view,mapN,↓bfr7,↓cmr2,↓cmi3,hd,↓opr]
    exact brB_of (fun _ => q1) fun _ => ⟨by lia,q1⟩
  exact ht _ (brB_t (hb _ h))
theorem fig_end {w : Int} {x : Str} {n k : Nat} {Q : FL → Loc → MH → Prop} (hx : x.length = 2) (h : Q .next (figL w x 0) H) : whileI (wpq T (k + 8)).1 (wpq T (k + 8)).2 figTest figBody X (n + 1) (figL w x 0) H Q := by
  have hd : decide ((x.length : Int) < 2) = false := decide_eq_false (by lia)
  have ht : ∀ Q1 : AV → MH → Prop,Q1 (.bool false) H → (wpq T (k + 8)).1 figTest (figL w x 0) H Q1 X := by
    intro Q1 q1
    simp only [↓wq1,figTest,figL,↓ser9,↓orr2,↓ser5,↓ser2,List.getElem?_cons_succ,List.getElem?_cons_zero,↓ser1,↓vci5,↓isr,↓orr1,↓ser12,↓evr2,↓evr1,mapC,view,mapN,↓bfr7,↓cmr2,↓cmi3,hd,↓opr]
    exact ⟨fun e => absurd e (by decide),fun _ => ⟨by lia,q1⟩⟩
  exact ht _ (brB_f h)
theorem fig_wp (h : figC args H Q X) : Body T lo_figures_of ir_figures_of args H Q X := by
  refine byC fun no9 => ?_
  obtain ⟨w,rfl,h0,h1,q⟩ := h
  refine no9 ?_
  clear no9
  refine ⟨rfl,?_⟩
  simp only [ir_figures_of,mapC,mapN,lo_figures_of,List.length_cons,List.length_nil,Nat.reduceAdd,Nat.reduceSub,List.replicate,List.cons_append,List.nil_append,↓wq2,↓stepS,↓sir1,↓opr,sek1,sek2,List.set_cons_succ,List.set_cons_zero,↓wq1,↓ser1,↓isr]
  simp only [seq_next]
  simp only [↓wq2,↓stepS,↓sir1,↓opr,sek1,sek2,List.set_cons_succ,List.set_cons_zero,↓wq1,↓ser2,List.getElem?_cons_zero,↓isr]
  simp only [seq_next]
  simp only [↓wq2,↓stepS,↓sir6,↓opr,↓isr]
  refine ⟨3,?_⟩
  refine fig_turn (w := w) (k := 15) (x := "") h0 (by decide +kernel) ?_
  refine fig_turn (w := w) (k := 15) (nib2 h0) (by rw [show (Str.ofString "") = strN [] by kernel_rfl,strN_app,strN_len]; exact Nat.lt_succ_self 1) ?_
  have e : w / 16 / 16 = 0 := Int.ediv_eq_zero_of_lt (nib2 h0) (nib3 h1)
  rw [e]
  refine fig_end (w := w) (k := 15) ?_ ?_
  · rw [show (Str.ofString "") = strN [] by kernel_rfl,strN_app,strN_app,strN_len]; rfl
  simp only [seq_next]
  simp only [figL,↓wq2,↓stepS,↓sir7,↓seqQ,↓wq1,↓ser2,List.getElem?_cons_succ,List.getElem?_cons_zero,↓opr,↓isr]
  rw [show (Str.ofString "") = strN [] by kernel_rfl,strN_app,strN_app,show w / 16 % 16 = w / 16 from Int.emod_eq_of_lt (nib2 h0) (nib3 h1)]
  exact q
noncomputable def octT (ns : List Int) : Str := Txt.join " " (ns.map figT)
noncomputable def octtC : Con := fun args H Q X => ∃ ns : List Int,args = [.bytes ns] ∧ (∀ n ∈ ns,0 ≤ n ∧ n < 256) ∧ ns.length ≤ 5 ∧ Q (.str (octT ns)) H
theorem strsOf_ok : ∀ {xs : List Str},strsOf (xs.map .str) = some xs
  | [] => rfl
  | x :: r => by
    show (match strsOf (r.map .str) with | some l => some (x :: l) | none => none) = _
    rw [strsOf_ok]
theorem comp_fig {k : Nat} (t134 : T 134 = some figC) : ∀ {ns : List Int} {acc : List AV} {Q : List AV → MH → Prop},(∀ n ∈ ns,0 ≤ n ∧ n < 256) → Q (acc ++ (ns.map figT).map .str) H → comps (wpq T (k + 8)).1 (.call 134 [.loc 0,.c (.int 2)]) none [] (ns.map .int) acc H Q
  | [],acc,Q,_,q => by
    have q : Q (acc ++ []) H := q
    rw [List.append_nil] at q
    exact q
  | n :: r,acc,Q,hb,q => by
    have ht : ∀ (Q1 : AV → MH → Prop) X,Q1 (.str (figT n)) H → (wpq T (k + 8)).1 (.call 134 [.loc 0,.c (.int 2)]) [some (.int n)] H Q1 X := by
      intro Q1 X q1
      simp only [↓wq1,↓ser11,↓evr1,↓evr2,t134,↓ser1,↓ser2,List.getElem?_cons_zero,↓opr,↓isr]
      exact ⟨n,rfl,(hb n (.head _)).1,(hb n (.head _)).2,q1⟩
    refine ht _ _ (comp_fig t134 (fun m hm => hb m (.tail _ hm)) ?_)
    simpa using q
theorem octt_wp (t134 : T 134 = some figC) (h : octtC args H Q X) : Body T lo_octets_text ir_octets_text args H Q X := by
  refine byC fun no9 => ?_
  obtain ⟨ns,rfl,hb,hl,q⟩ := h
  refine no9 ?_
  clear no9
  refine ⟨rfl,?_⟩
  simp only [ir_octets_text,mapC,mapN,lo_octets_text,List.length_cons,List.length_nil,Nat.reduceAdd,Nat.reduceSub,List.replicate,List.cons_append,List.nil_append,↓wq2,↓stepS,↓sir7,↓wq1,↓ser14,↓evr1,↓evr2,↓ser20,↓opr,itemsOf,↓ser2,List.getElem?_cons_zero,↓ser1,↓smo8,true_and,↓isr]
  refine ⟨by simp; (exact Nat.le_trans (by assumption) (by decide)),comp_fig (k := 15) t134 hb ?_⟩
  have e := strsOf_ok (xs := ns.map figT)
  simp only [↓smr5,view,List.nil_append,avl,seqQ,↓opr,e]
  refine ⟨⟨?_,by decide +kernel⟩,q⟩
  rw [List.length_map]
  exact Le.too 15 (Nat.add_le_add (Nat.le_trans figT_sum (Nat.mul_le_mul_left 2 hl)) hl) rfl
noncomputable def octsC : Con := fun args H Q X => ∃ ts : List Nat,args = [.str (strN ts)] ∧ (∀ c ∈ ts,c < 128) ∧ ts.length ≤ 1000 ∧
  ∀ l,match digitsN ts with
    | none => X 59 (H ++ [l])
    | some ds => if ds.length % 2 = 1 then X 59 (H ++ [l]) else Q (.bytes (pairsN ds)) (H ++ [l])
noncomputable def octBody : List IS := [.iff (.cmp (.loc 2) .Eq (.c (.str " "))) [.cont] [],.asg 3 false (.smeth .find (.g 0) [.loc 2]),.iff (.cmp (.loc 3) .Lt (.c (.int 0))) [.raise 59 (.bin .Add (.c (.str "no figure of base 16: ")) (.loc 2))] [],.ex (.smeth .append (.loc 1) [.loc 3])]
theorem strN_inj {a b : List Nat} (h : strN a = strN b) : a = b := by
  have := congrArg (fun s : Str => s.cps.toList) h
  simpa [strN] using this
theorem oct_loop {k : Nat} {x : Option AV} {Q' : FL → Loc → MH → Prop} : ∀ (ts : List Nat) (ds : List Int) (y z : Option AV),ts.length + ds.length ≤ 1000 →
    (match digitsN ts with | none => ∀ l,X 59 (H ++ [l]) | some es => ∀ y z,Q' .next [x,some (.mu H.length),y,z] (H ++ [(ds ++ es).map .int])) →
    forI (wpq T (k + 8)).2 [(2,false)] true octBody X (ts.map fun c => AV.str (strN [lowN c])) [x,some (.mu H.length),y,z] (H ++ [ds.map .int]) Q'
  | [],ds,y,z,hl,q => by
    have q : ∀ y z,Q' .next [x,some (.mu H.length),y,z] (H ++ [(ds ++ []).map .int]) := q
    rw [List.append_nil] at q
    exact q y z
  | c :: r,ds,y,z,hl,q => by
    show optP (bindT [(2,false)] true (.str (strN [lowN c])) _) _
    simp only [bit1,bit2,sek1,sek2,↓opr,↓isr]
    show (wpq T (k + 8)).2 octBody _ _ _ X
    simp only [digitsN_c] at q
    have hsp : (strN [lowN c] = (Str.ofString " ")) = (lowN c = 32) := by
      have e : Str.ofString " " = strN [32] := by kernel_rfl
      rw [e]
      exact propext ⟨fun h => by have := strN_inj h; simpa using this,fun h => by rw [h]⟩
    by_cases h32 : lowN c = 32
    · rw [if_pos h32] at q
      have key : ∀ Q1 : FL → Loc → MH → Prop,(Q1 .cont [x,some (.mu H.length),some (.str (strN [lowN c])),z] (H ++ [ds.map .int])) → (wpq T (k + 8)).2 octBody [x,some (.mu H.length),some (.str (strN [lowN c])),z] (H ++ [ds.map .int]) Q1 X := by
        intro Q1 q1
        simp only [↓wq2,stepS,octBody,↓sir4,↓wq1,↓ser5,↓ser2,List.getElem?_cons_succ,List.getElem?_cons_zero,↓ser1,↓vcs1,↓isr,hsp,decide_eq_true h32,↓sir9,↓brT]
        exact q1
      refine key _ ?_
      exact oct_loop r ds _ _ (by simp only [List.length_cons] at hl; lia) q
    · rw [if_neg h32] at q
      have d32 : decide (lowN c = 32) = false := decide_eq_false h32
      by_cases hneg : valN (lowN c) < 0
      · rw [if_pos hneg] at q
        have dn : decide (Txt.find figS (strN [lowN c]) < 0) = true := decide_eq_true hneg
        have key : ∀ Q1 : FL → Loc → MH → Prop,(∀ l,X 59 (H ++ [l])) → (wpq T (k + 8)).2 octBody [x,some (.mu H.length),some (.str (strN [lowN c])),z] (H ++ [ds.map .int]) Q1 X := by
          intro Q1 q1
          simp only [↓wq2,stepS,octBody,↓sir4,↓wq1,↓ser5,↓ser2,List.getElem?_cons_succ,List.getElem?_cons_zero,↓ser1,↓vcs1,↓isr,hsp,d32,↓sir9,↓brF]
          simp only [seq_next]
          simp only [↓wq2,↓stepS,↓sir1,↓opr,sek1,sek2,List.set_cons_succ,List.set_cons_zero,↓wq1,↓ser14,↓evr1,↓evr2,↓ser2,List.getElem?_cons_succ,List.getElem?_cons_zero,↓ser3,gfig,↓smo7,↓smr4,true_and,↓isr]
          simp only [seq_next]
          simp only [↓wq2,stepS,↓sir4,↓wq1,↓ser5,↓ser2,List.getElem?_cons_succ,List.getElem?_cons_zero,↓ser1,↓vci3,↓isr,dn,↓sir10,↓ser4,↓vws,↓brT]
          have e1 : (Str.ofString "no figure of base 16: ").length = 22 := by kernel_rfl
          have e2 : (strN [lowN c]).length = 1 := by rw [strN_len]; rfl
          have e3 : sizeLine = 16777216 := sizeLine_eq
          refine ⟨of_decide_eq_true rfl,_,rfl,?_,q1 _⟩
          rw [Str.length_append,e1,e2]; decide
        exact key _ q
      · rw [if_neg hneg] at q
        have dn : decide (Txt.find figS (strN [lowN c]) < 0) = false := decide_eq_false hneg
        have gH : (H ++ [ds.map AV.int])[H.length]? = some (ds.map .int) := by rw [List.getElem?_append_right (Nat.le_refl _)]; simp
        have sH : ∀ y,(H ++ [ds.map AV.int]).set H.length y = H ++ [y] := fun y => by rw [List.set_append_right _ _ (Nat.le_refl _)]; simp
        have key : ∀ Q1 : FL → Loc → MH → Prop,(Q1 .next [x,some (.mu H.length),some (.str (strN [lowN c])),some (.int (valN (lowN c)))] (H ++ [(ds ++ [valN (lowN c)]).map .int])) → (wpq T (k + 8)).2 octBody [x,some (.mu H.length),some (.str (strN [lowN c])),z] (H ++ [ds.map .int]) Q1 X := by
          intro Q1 q1
          simp only [↓wq2,stepS,octBody,↓sir4,↓wq1,↓ser5,↓ser2,List.getElem?_cons_succ,List.getElem?_cons_zero,↓ser1,↓vcs1,↓isr,hsp,d32,↓sir9,↓brF]
          simp only [seq_next]
          simp only [↓wq2,↓stepS,↓sir1,↓opr,sek1,sek2,List.set_cons_succ,List.set_cons_zero,↓wq1,↓ser14,↓evr1,↓evr2,↓ser2,List.getElem?_cons_succ,List.getElem?_cons_zero,↓ser3,gfig,↓smo7,↓smr4,true_and,↓isr]
          simp only [seq_next]
          simp only [↓wq2,stepS,↓sir4,↓wq1,↓ser5,↓ser2,List.getElem?_cons_succ,List.getElem?_cons_zero,↓ser1,↓vci3,↓isr,dn,↓sir10,↓ser4,↓vws,↓brF]
          simp only [seq_next]
          simp only [↓wq2,↓stepS,↓sir8,↓wq1,↓ser14,↓evr1,↓evr2,↓ser2,List.getElem?_cons_succ,List.getElem?_cons_zero,↓smo1,↓smr7,gH,repI,sH,true_and,↓opr,↓isr]
          refine ⟨by simp only [List.length_cons] at hl; simp; lia,?_⟩
          simp only [seq_next]
          rw [List.map_append] at q1
          exact q1
        refine key _ ?_
        refine oct_loop r (ds ++ [valN (lowN c)]) _ _ (by simp only [List.length_cons] at hl; simp; lia) ?_
        cases hd : digitsN r with
        | none => rw [hd] at q; exact q
        | some es =>
          rw [hd] at q
          intro y z
          have := q y z
          rw [List.append_assoc]
          exact this
theorem items_str {ts : List Nat} : itemsOf (.str (strN ts)) = some (ts.map fun c => .str (strN [c])) := by
  show some ((ts.toArray.toList.map _)) = _
  simp [strN]
theorem val_lt : ((List.range 128).all fun c => decide (valN c < 16) && decide (lowN c < 128)) = true := by kernel_rfl
theorem digits_in : ∀ {ts : List Nat} {ds : List Int},(∀ c ∈ ts,c < 128) → digitsN ts = some ds → (∀ d ∈ ds,0 ≤ d ∧ d < 16) ∧ ds.length ≤ ts.length
  | [],ds,_,h => by cases Option.some.inj h; exact ⟨(fun d hd => (List.not_mem_nil hd).elim),of_decide_eq_true rfl⟩
  | c :: r,ds,ha,h => by
    simp only [digitsN_c] at h
    split at h
    · obtain ⟨a,b⟩ := digits_in (fun c hc => ha c (.tail _ hc)) h
      exact ⟨a,by simp only [List.length_cons,↓opr,↓isr]; lia⟩
    · split at h
      · exact noneX h
      · rename_i h1 h2
        obtain ⟨es,e,rfl⟩ := Option.map_eq_some_iff.mp h
        obtain ⟨a,b⟩ := digits_in (fun c hc => ha c (.tail _ hc)) e
        have hc := ha c (.head _)
        have h3 := List.all_eq_true.mp val_lt c (List.mem_range.mpr hc)
        simp only [Bool.and_eq_true,decide_eq_true_eq,decide_eq_true_eq] at h3
        have h4 := List.all_eq_true.mp val_lt (lowN c) (List.mem_range.mpr h3.2)
        simp only [Bool.and_eq_true,decide_eq_true_eq,decide_eq_true_eq] at h4
        refine ⟨fun d hd => ?_,by simp only [List.length_cons,↓opr,↓isr]; lia⟩
        rcases List.mem_cons.mp hd with rfl | hd
        · exact ⟨by (exact Int.not_lt.mp (by assumption)),h4.1⟩
        · exact a d hd
theorem pairs_in : ∀ {ds : List Int},(∀ d ∈ ds,0 ≤ d ∧ d < 16) → (∀ n ∈ pairsN ds,0 ≤ n ∧ n < 256) ∧ (pairsN ds).length ≤ ds.length
  | [],_ => ⟨(fun d hd => (List.not_mem_nil hd).elim),Nat.zero_le _⟩
  | [_],_ => ⟨(fun d hd => (List.not_mem_nil hd).elim),Nat.zero_le _⟩
  | a :: b :: r,h => by
    obtain ⟨x,y⟩ := pairs_in (ds := r) fun d hd => h d (.tail _ (.tail _ hd))
    have ha := h a (.head _)
    have hb := h b (.tail _ (.head _))
    refine ⟨fun n hn => ?_,by rw [pairsN_c]; exact Nat.le_succ_of_le (Nat.succ_le_succ y)⟩
    simp only [pairsN_c] at hn
    rcases List.mem_cons.mp hn with rfl | hn
    · exact ⟨Int.add_nonneg (Int.mul_nonneg (by decide) ha.1) hb.1,Int.lt_of_lt_of_le (Int.add_lt_add_left hb.2 _) (Int.add_le_add_right (Int.mul_le_mul_of_nonneg_left (Int.le_of_lt_add_one (b := 15) ha.2) (by decide)) 16)⟩
    · exact x n hn
noncomputable def pairE : IE := .bin .Add (.bin .Mult (.c (.int 16)) (.idx (.loc 1) (.loc 0))) (.idx (.loc 1) (.bin .Add (.loc 0) (.c (.int 1))))
theorem comp_pairs {k : Nat} {ds : List Int} (hlen : ds.length ≤ 1000) : ∀ {m s : Nat} {acc : List AV} {Q : List AV → MH → Prop},2 * (s + m) = ds.length → Q (acc ++ (pairsN (ds.drop (2 * s))).map .int) (H ++ [ds.map .int]) →
    comps (wpq T (k + 8)).1 pairE none [some (.mu H.length)] ((List.range' s m).map fun (q : Nat) => AV.int (0 + (q : Int) * 2)) acc (H ++ [ds.map .int]) Q
  | 0,s,acc,Q,hs,q => by
    rw [List.drop_of_length_le (show ds.length ≤ 2 * s from Nat.le_of_eq hs.symm)] at q
    have q : Q (acc ++ []) (H ++ [ds.map .int]) := q
    rw [List.append_nil] at q
    exact q
  | m + 1,s,acc,Q,hs,q => by
    rw [List.range'_succ,List.map_cons]
    have gH : (H ++ [ds.map AV.int])[H.length]? = some (ds.map .int) := by rw [List.getElem?_append_right (Nat.le_refl _)]; simp
    have h2 : 2 * s + 1 < ds.length := Nat.lt_of_lt_of_eq (Nat.succ_lt_succ (Nat.lt_succ_of_le (Nat.mul_le_mul_left 2 (Nat.le_add_right s m)))) hs
    have h1 : 2 * s < ds.length := Nat.lt_of_succ_lt h2
    have x1 : (ds.map AV.int).getD (0 + (s : Int) * 2).toNat .none = .int (ds.getD (2 * s) 0) := by rw [Int.zero_add,show ((s : Int) * 2).toNat = 2 * s from Nat.mul_comm s 2]; exact getD_int h1
    have x2 : (ds.map AV.int).getD (0 + (s : Int) * 2 + 1).toNat .none = .int (ds.getD (2 * s + 1) 0) := by rw [Int.zero_add,show ((s : Int) * 2 + 1).toNat = 2 * s + 1 from congrArg (· + 1) (Nat.mul_comm s 2)]; exact getD_int h2
    have i2 : (s : Int) * 2 + 1 < ds.length := show ((s * 2 + 1 : Nat) : Int) < _ from Int.ofNat_lt.mpr (Nat.mul_comm 2 s ▸ h2)
    have i1 := Int.lt_trans (Int.lt_succ _) i2
    have b16 : Builtin.Int.intBits 16 ≤ shortFactorBits := by decide +kernel
    have key : ∀ (Q1 : AV → MH → Prop) X1,Q1 (.int (16 * ds.getD (2 * s) 0 + ds.getD (2 * s + 1) 0)) (H ++ [ds.map .int]) → (wpq T (k + 8)).1 pairE [some (.int (0 + (s : Int) * 2)),some (.mu H.length)] (H ++ [ds.map .int]) Q1 X1 := by
      intro Q1 X1 q1
      simp only [↓wq1,pairE,↓ser4,↓ser1,↓ser16,↓ser2,List.getElem?_cons_succ,List.getElem?_cons_zero,view,gH,↓vwi1,↓idr1,x2,true_and,x1,↓biv1,↓bii3,↓bii1]
      exact ⟨⟨of_decide_eq_true rfl,by simp; exact i1,by simp; exact Le.too 1000 hlen rfl⟩,mul_ok (.inl b16),⟨of_decide_eq_true rfl,by simp; exact i2,by simp; exact Le.too 1000 hlen rfl⟩,q1⟩
    refine key _ _ ?_
    refine comp_pairs hlen ((congrArg (2 * ·) (Nat.add_right_comm s 1 m)).trans hs) ?_
    have e : ds.drop (2 * s) = ds.getD (2 * s) 0 :: ds.getD (2 * s + 1) 0 :: ds.drop (2 * (s + 1)) := by
      rw [List.drop_eq_getElem_cons h1,List.drop_eq_getElem_cons h2]
      simp [List.getD_eq_getElem?_getD,List.getElem?_eq_getElem h1,List.getElem?_eq_getElem h2,show 2 * s + 1 + 1 = 2 * (s + 1) from rfl]
    rw [e] at q
    simp only [pairsN_c,mapC] at q
    simpa using q
theorem octs_wp (h : octsC args H Q X) : Body T lo_octets_of ir_octets_of args H Q X := by
  refine byC fun no9 => ?_
  obtain ⟨ts,rfl,ha,hl,q⟩ := h
  refine no9 ?_
  clear no9
  refine ⟨rfl,?_⟩
  have e1 : Txt.lower (strN ts) = strN (ts.map lowN) := lower_a ha
  have e2 : itemsOf (.str (strN (ts.map lowN))) = some (ts.map fun c => .str (strN [lowN c])) := by rw [items_str,List.map_map]; rfl
  simp only [ir_octets_of,mapC,mapN,lo_octets_of,List.length_cons,List.length_nil,Nat.reduceAdd,Nat.reduceSub,List.replicate,List.cons_append,List.nil_append,↓wq2,↓stepS,↓sir1,↓opr,sek1,sek2,List.getElem?_cons_succ,List.getElem?_cons_zero,List.set_cons_succ,List.set_cons_zero,↓wq1,↓ser19,↓evr1,↓evr2,↓isr]
  refine ⟨by decide,(fun P I xs Vs h => stillN h),?_⟩
  simp only [seq_next]
  simp only [↓wq2,↓stepS,↓sir5,↓opr,↓wq1,↓ser14,↓evr1,↓evr2,↓ser2,List.getElem?_cons_zero,↓smo5,↓smr2,e1,e2,true_and,↓isr]
  refine ⟨by rw [strN_len]; (exact Nat.le_trans (by assumption) (by decide)),?_⟩
  refine oct_loop (k := 16) (x := some (.str (strN ts))) ts [] none none (by simpa using hl) ?_
  cases hd : digitsN ts with
  | none => intro l; have := q l; rw [hd] at this; exact this
  | some ds =>
    intro y z
    rw [hd] at q
    refine byC fun no9 => ?_
    obtain ⟨d1,d2⟩ := digits_in ha hd
    obtain ⟨p1,p2⟩ := pairs_in d1
    refine no9 ?_
    clear no9
    have gH : (H ++ [ds.map AV.int])[H.length]? = some (ds.map .int) := by rw [List.getElem?_append_right (Nat.le_refl _)]; simp
    have q := q (ds.map .int)
    dsimp only at q
    simp only [seq_next]
    simp only [↓wq2,stepS,↓sir4,↓wq1,↓ser5,↓ser4,↓ser12,↓evr2,↓ser2,List.getElem?_cons_succ,List.getElem?_cons_zero,↓evr1,List.nil_append,mapC,view,gH,mapN,↓ser1,↓isr,↓sir10,↓bfr5,↓biv1,↓bii4,fm _ (show (0 : Int) ≤ 2 by decide),↓cmr2,↓cmi1,↓opr]
    have e3 : decide (((ds.map AV.int).length : Int) % 2 = 1) = decide (ds.length % 2 = 1) := decide_eq_decide.mpr (by rw [List.length_map]; exact Int.ofNat_inj (m := ds.length % 2) (n := 1))
    have dM := Nat.le_trans d2 hl
    have dN := Le.too (b := 100000) 1000 dM rfl
    refine ⟨by simp; exact dN,by decide,?_⟩
    rw [e3]
    by_cases ho : ds.length % 2 = 1
    · rw [if_pos ho] at q
      rw [decide_eq_true ho,brT]
      refine ⟨_,rfl,?_,q⟩
      decide +kernel
    · rw [if_neg ho] at q
      simp only [decide_eq_false ho,brF,seq_next]
      obtain ⟨m,hm⟩ : ∃ m,ds.length = 2 * m := ⟨ds.length / 2,(Nat.mul_div_cancel' (Nat.dvd_of_mod_eq_zero ((Nat.mod_two_eq_zero_or_one _).resolve_right ho))).symm⟩
      have mM : m ≤ 100000 := Nat.le_trans (Nat.le_mul_of_pos_left m (by decide)) (hm ▸ dN)
      have e4 : itemsOf (.rng 0 ((ds.map AV.int).length : Int) 2) = some ((List.range' 0 m).map fun (q : Nat) => AV.int (0 + (q : Int) * 2)) := by
        rw [List.length_map,hm,← List.range_eq_range']
        exact its_2 mM
      simp only [↓wq2,stepS,↓sir7,↓wq1,↓ser12,↓evr2,↓ser20,↓ser1,↓ser2,List.getElem?_cons_succ,List.getElem?_cons_zero,↓evr1,mapC,view,gH,mapN,↓bfr14,↓bfr5,↓bfr13,e4,↓opr]
      refine ⟨by simp; exact dN,⟨by decide,by decide⟩,by simp; exact mM,?_⟩
      refine comp_pairs (k := 12) (s := 0) dM (by rw [Nat.zero_add]; exact hm.symm) ?_
      exact ⟨pairsN ds,rfl,p1,Nat.le_trans p2 dN,q⟩
end
noncomputable def hP (H : MH) (i : Nat) (a b : Int) (rest : MH) : MH := H.set i [.int a,.int b] ++ rest
theorem hP_get {H : MH} {i : Nat} {a b : Int} {rest : MH} (h : i < H.length) : (hP H i a b rest)[i]? = some [.int a,.int b] := by
  unfold hP; rw [List.getElem?_append_left (by simpa using h)]; simp [h]
theorem hP_set {H : MH} {i : Nat} {a b a' b' : Int} {rest : MH} (h : i < H.length) : (hP H i a b rest).set i [.int a',.int b'] = hP H i a' b' rest := by
  unfold hP; rw [List.set_append_left _ _ (by simpa using h),List.set_set]
theorem hP_app {H : MH} {i : Nat} {a b : Int} {rest : MH} {l : List AV} : hP H i a b rest ++ [l] = hP H i a b (rest ++ [l]) := by unfold hP; rw [List.append_assoc]
theorem hP_0 {H : MH} {i : Nat} {a b : Int} (h : H[i]? = some [.int a,.int b]) : H = hP H i a b [] := by
  unfold hP
  simp only [List.append_nil]
  apply List.ext_getElem?
  intro k
  rw [List.getElem?_set]
  split
  · rename_i hk; subst hk
    rw [h]
    have := (List.getElem?_eq_some_iff.mp h).1
    simp [this]
  · rfl
theorem figS_eq : Str.ofString "0123456789abcdef" = figS := rfl
theorem emp_eq : Str.ofString "" = strN [] := by kernel_rfl
theorem blank_eq : Str.ofString " " = strN [32] := by kernel_rfl
theorem join_is (sep : Str) (xs : List Str) : Txt.join sep xs = Str.join sep xs := StrLaws.glued_eq_join sep xs
theorem join_hex : ∀ {ns : List Int},Str.join (strN []) (ns.map figT) = strN (hexs ns)
  | [] => rfl
  | [n] => by show figT n = _; unfold figT hexs; simp
  | n :: m :: r => by
    show figT n ++ strN [] ++ Str.join (strN []) ((m :: r).map figT) = _
    rw [join_hex]
    unfold figT
    rw [strN_app,strN_app]
    unfold hexs
    simp
noncomputable def octN : List Int → List Nat
  | [] => []
  | [n] => hexs [n]
  | n :: r => hexs [n] ++ [32] ++ octN r
theorem join_oct : ∀ {ns : List Int},octT ns = strN (octN ns)
  | [] => by unfold octT; rw [join_is]; rfl
  | [n] => by unfold octT; rw [join_is]; show figT n = strN (hexs [n]); unfold figT hexs; simp
  | n :: m :: r => by
    have ih := join_oct (ns := m :: r)
    unfold octT at *
    rw [join_is] at *
    show figT n ++ Str.ofString " " ++ Str.join (Str.ofString " ") ((m :: r).map figT) = _
    rw [ih,blank_eq]
    unfold figT
    rw [strN_app,strN_app]
    rfl
noncomputable def Byt (ns : List Int) : Prop := ∀ n ∈ ns,0 ≤ n ∧ n < 256
noncomputable def digs (ns : List Int) : List Int := ns.flatMap fun n => [n / 16,n % 16]
theorem digits_one {n : Int} (h0 : 0 ≤ n) (h1 : n < 256) : digitsN (hexs [n]) = some [n / 16,n % 16] := by
  have b1 := hexI (nib0 n) (nib1 n)
  have b2 := hexI (nib2 h0) (nib3 h1)
  show digitsN [hexN (n / 16).toNat,hexN (n % 16).toNat] = _
  simp only [digitsN_c,digitsN_c]
  simp only [b1.2.1,b2.2.1,b1.2.2.2.2.2.1,b2.2.2.2.2.2.1,if_neg b1.2.2.2.2.1,if_neg b2.2.2.2.2.1,↓opr,↓isr]
  rw [if_neg (Int.not_lt.mpr (nib2 h0)),if_neg (Int.not_lt.mpr (nib0 n))]
  rfl
theorem hexs_cons {n : Int} {r : List Int} : hexs (n :: r) = hexs [n] ++ hexs r := by unfold hexs; simp
theorem digs_cons {n : Int} {r : List Int} : digs (n :: r) = [n / 16,n % 16] ++ digs r := by unfold digs; simp
theorem digits_hexs : ∀ {ns : List Int},Byt ns → digitsN (hexs ns) = some (digs ns)
  | [],_ => rfl
  | n :: r,h => by
    have hn := h n (.head _)
    rw [hexs_cons,digits_app,digits_one hn.1 hn.2,digits_hexs (ns := r) fun m hm => h m (.tail _ hm),digs_cons]
    rfl
theorem digits_octN : ∀ {ns : List Int},Byt ns → digitsN (octN ns) = some (digs ns)
  | [],_ => rfl
  | [n],h => by
    have hn := h n (.head _)
    show digitsN (hexs [n]) = _
    rw [digits_one hn.1 hn.2]
    rfl
  | n :: m :: r,h => by
    have hn := h n (.head _)
    show digitsN (hexs [n] ++ [32] ++ octN (m :: r)) = _
    simp only [digits_app,digits_app,digits_one hn.1 hn.2,digits_octN (ns := m :: r) fun m hm => h m (.tail _ hm),digs_cons (n := n)]
    rfl
theorem pairs_digs : ∀ {ns : List Int},Byt ns → pairsN (digs ns) = ns ∧ (digs ns).length % 2 = 0
  | [],_ => ⟨rfl,rfl⟩
  | n :: r,h => by
    have hn := h n (.head _)
    obtain ⟨a,b⟩ := pairs_digs (ns := r) fun m hm => h m (.tail _ hm)
    rw [digs_cons]
    refine ⟨?_,by show ((digs r).length + 2) % 2 = 0; rw [Nat.add_mod_right]; exact b⟩
    show (16 * (n / 16) + n % 16) :: pairsN (digs r) = _
    rw [a]
    congr 1
    exact Int.mul_ediv_add_emod n 16
theorem hexs_in : ∀ {ns : List Int},Byt ns → (∀ c ∈ hexs ns,∃ k : Int,0 ≤ k ∧ k < 16 ∧ c = hexN k.toNat) ∧ (hexs ns).length = 2 * ns.length
  | [],_ => ⟨(fun c h => (List.not_mem_nil h).elim),rfl⟩
  | n :: r,h => by
    have hn := h n (.head _)
    obtain ⟨a,b⟩ := hexs_in (ns := r) fun m hm => h m (.tail _ hm)
    rw [hexs_cons]
    refine ⟨fun c hc => ?_,by rw [List.length_append,b]; show 2 + 2 * r.length = 2 * r.length + 2; exact Nat.add_comm _ _⟩
    rcases List.mem_append.mp hc with hc | hc
    · have hc : c ∈ [hexN (n / 16).toNat,hexN (n % 16).toNat] := hc
      simp only [List.mem_cons,List.not_mem_nil,or_false] at hc
      rcases hc with rfl | rfl
      · exact ⟨n / 16,nib2 hn.1,nib3 hn.2,rfl⟩
      · exact ⟨n % 16,nib0 n,nib1 n,rfl⟩
    · exact a c hc
theorem octN_in : ∀ {ns : List Int},Byt ns → (∀ c ∈ octN ns,c < 128) ∧ (octN ns).length ≤ 3 * ns.length
  | [],_ => ⟨(fun c h => (List.not_mem_nil h).elim),Nat.zero_le _⟩
  | [n],h => by
    obtain ⟨a,b⟩ := hexs_in h
    refine ⟨fun c hc => ?_,by show (hexs [n]).length ≤ _; rw [b]; exact (by decide : 2 * 1 ≤ 3 * 1)⟩
    obtain ⟨k,h0,h1,rfl⟩ := a c hc
    exact (hexI h0 h1).1
  | n :: m :: r,h => by
    obtain ⟨a,b⟩ := hexs_in (ns := [n]) fun m hm => h m (by simp at hm; subst hm; exact .head _)
    obtain ⟨a',b'⟩ := octN_in (ns := m :: r) fun m hm => h m (.tail _ hm)
    refine ⟨fun c hc => ?_,?_⟩
    · have hc : c ∈ hexs [n] ++ [32] ++ octN (m :: r) := hc
      rcases List.mem_append.mp hc with hc | hc
      · rcases List.mem_append.mp hc with hc | hc
        · obtain ⟨k,h0,h1,rfl⟩ := a c hc
          exact (hexI h0 h1).1
        · rw [List.mem_singleton.mp hc]; decide
      · exact a' c hc
    · show (hexs [n] ++ [32] ++ octN (m :: r)).length ≤ _
      rw [List.length_append,List.length_append,b,Nat.add_comm]
      exact Nat.add_le_add_right b' 3
theorem odd_len {x y : List Int} {c : Int} (h : (x.length + y.length) % 2 = 0) : (x ++ [c] ++ y).length % 2 = 1 := by
  rw [List.length_append,List.length_append,List.length_singleton,Nat.add_right_comm,Nat.add_mod,h]
theorem strange {a b : List Nat} {c : Nat} {ns : List Int} (h : Byt ns) (hd : digitsN (a ++ b) = some (digs ns)) (hc : c = 48 ∨ c = 103 ∨ c = 70 ∨ c = 45 ∨ c = 46 ∨ c = 120 ∨ c = 10) : match digitsN (a ++ [c] ++ b) with | none => True | some ds => ds.length % 2 = 1 := by
  rw [digits_app] at hd
  rw [digits_app,digits_app]
  cases ha : digitsN a with
  | none => trivial
  | some x =>
    rw [ha] at hd
    cases hb : digitsN b with
    | none =>
      cases hcc : digitsN [c] <;> trivial
    | some y =>
      rw [hb] at hd
      have hd : x ++ y = digs ns := Option.some.inj hd
      have hp := (pairs_digs h).2
      rw [← hd,List.length_append] at hp
      have e1 : digitsN [48] = some [0] := by kernel_rfl
      have e2 : digitsN [103] = none := by kernel_rfl
      have e3 : digitsN [70] = some [15] := by kernel_rfl
      have e4 : digitsN [45] = none := by kernel_rfl
      have e5 : digitsN [46] = none := by kernel_rfl
      have e6 : digitsN [120] = none := by kernel_rfl
      have e7 : digitsN [10] = none := by kernel_rfl
      rcases hc with rfl | rfl | rfl | rfl | rfl | rfl | rfl
      · rw [e1]; exact odd_len hp
      · rw [e2]; trivial
      · rw [e3]; exact odd_len hp
      · rw [e4]; trivial
      · rw [e5]; trivial
      · rw [e6]; trivial
      · rw [e7]; trivial
theorem slice_to {ts : List Nat} {d : Int} (h0 : 0 ≤ d) (h1 : d ≤ ts.length) : Txt.slice (strN ts) none (some d) = strN (ts.take d.toNat) := by
  have := eq_of_beq (slice_closes_to (x := strN ts) (j := d) (by simpa [strN] using ⟨h0,h1⟩))
  rw [this]
  simp [strN]
theorem slice_from {ts : List Nat} {d : Int} (h0 : 0 ≤ d) (h1 : d ≤ ts.length) : Txt.slice (strN ts) (some d) none = strN (ts.drop d.toNat) := by
  have := eq_of_beq (slice_closes_from (x := strN ts) (i := d) (by simpa [strN] using ⟨h0,h1⟩))
  rw [this]
  unfold strN
  rw [List.take_of_length_le (by simp; rw [← Int.toNat_add (Int.sub_nonneg_of_le h1) h0,Int.sub_add_cancel]; exact Nat.le_refl _)]
theorem slice_mid {ts : List Nat} {d e : Int} (h0 : 0 ≤ d) (h1 : d ≤ e) (h2 : e ≤ ts.length) : Txt.slice (strN ts) (some d) (some e) = strN ((ts.drop d.toNat).take (e - d).toNat) := by
  have := eq_of_beq (slice_closes (x := strN ts) (i := d) (j := e) (by simpa [strN] using ⟨h0,h1,h2⟩))
  simp only [this]
  simp [strN]
theorem hexs_slice : ∀ {s : Nat} {ns : List Int},s < ns.length → ((hexs ns).drop (2 * s)).take 2 = hexs [ns.getD s 0]
  | 0,n :: r,_ => by rw [hexs_cons]; rfl
  | s + 1,n :: r,h => by
    rw [hexs_cons,show 2 * (s + 1) = 2 * s + 2 from rfl]
    exact hexs_slice (ns := r) (by simpa using h)
section
variable {Tq T : Nat → Option Con} {args : List AV} {H : MH} {Q : AV → MH → Prop} {X : Nat → MH → Prop}
theorem comp_draw {k i : Nat} (t605 : T 605 = some drawC) (hi : i < H.length) {rest : MH} {Q : List AV → MH → Prop} {B : Int} (hB : B ≤ 900000) : ∀ {vs acc : List AV} {a b : Int},0 ≤ a → 0 ≤ b → b + vs.length ≤ B →
    (∀ ns a' b',ns.length = vs.length → Byt ns → 0 ≤ a' → 0 ≤ b' → b' ≤ B → Q (acc ++ ns.map .int) (hP H i a' b' rest)) → comps (wpq T (k + 8)).1 (.call 605 [.loc 1,.c (.int 256)]) none [some (.mu i)] vs acc (hP H i a b rest) Q
  | [],acc,a,b,ha,hb,hl,q => by
    have q := q [] a b rfl (fun n h => (List.not_mem_nil h).elim) ha hb (by simpa using hl)
    simp only [List.map_nil,List.append_nil] at q
    exact q
  | v :: vs,acc,a,b,ha,hb,hl,q => by
    have key : ∀ (Q1 : AV → MH → Prop) X1,(∀ d a' b',0 ≤ d → d < 256 → 0 ≤ a' → 0 ≤ b' → b' ≤ b + 1 → Q1 (.int d) (hP H i a' b' rest)) → (wpq T (k + 8)).1 (.call 605 [.loc 1,.c (.int 256)]) [some v,some (.mu i)] (hP H i a b rest) Q1 X1 := by
      intro Q1 X1 q1
      simp only [↓wq1,↓ser11h,↓evr2,↓ser2,List.getElem?_cons_succ,List.getElem?_cons_zero,↓ser1,↓evr1,↓callH t605]
      refine ⟨i,256,a,b,rfl,hP_get hi,by decide,by decide,ha,hb,Int.le_trans (Int.le_add_of_nonneg_right (Int.natCast_nonneg _)) (Int.le_trans hl (Le.to 900000 hB rfl)),fun d a' b' h0 h1 h2 h3 h4 => ?_⟩
      rw [hP_set hi]
      exact q1 d a' b' h0 h1 h2 h3 h4
    refine key _ _ fun d a' b' h0 h1 h2 h3 h4 => comp_draw t605 hi hB h2 h3 (by rw [List.length_cons] at hl; exact Int.le_trans (Int.add_le_add_right h4 _) (Int.le_trans (Int.le_of_eq ((Int.add_assoc b 1 _).trans (congrArg (b + ·) (Int.add_comm 1 _)))) hl)) fun ns a'' b'' e1 e2 e3 e4 e5 => ?_
    have := q (d :: ns) a'' b'' (by simp [e1]) (fun n hn => by rcases List.mem_cons.mp hn with rfl | hn; exact ⟨h0,h1⟩; exact e2 n hn) e3 e4 e5
    simpa using this
noncomputable def hexE : IE := .bin .Add (.idx (.c (.str "0123456789abcdef")) (.bin .FloorDiv (.loc 0) (.c (.int 16)))) (.idx (.c (.str "0123456789abcdef")) (.bin .Mod (.loc 0) (.c (.int 16))))
theorem comp_hex {k : Nat} {Q : List AV → MH → Prop} : ∀ {ns : List Int} {acc : List AV},Byt ns → Q (acc ++ (ns.map figT).map .str) H → comps (wpq T (k + 8)).1 hexE none [] (ns.map .int) acc H Q
  | [],acc,hb,q => by
    have q : Q (acc ++ []) H := q
    rw [List.append_nil] at q
    exact q
  | n :: r,acc,hb,q => by
    have hn := hb n (.head _)
    have b1 := hexI (nib0 n) (nib1 n)
    have b2 := hexI (nib2 hn.1) (nib3 hn.2)
    have key : ∀ (Q1 : AV → MH → Prop) X1,Q1 (.str (figT n)) H → (wpq T (k + 8)).1 hexE [some (.int n)] H Q1 X1 := by
      intro Q1 X1 q1
      simp only [↓wq1,hexE,figS_eq,↓ser4,↓ser16,↓ser1,↓ser2,List.getElem?_cons_zero,↓vwi5,↓vid3,fd _ (show (0 : Int) ≤ 16 by decide),figS_len,↓vwi4,fm _ (show (0 : Int) ≤ 16 by decide),↓vws,b2.2.2.2.2.2.2,strN_len,List.length_cons,List.length_nil,Nat.reduceAdd,b1.2.2.2.2.2.2,strN_app,List.cons_append,List.nil_append]
      have : sizeLine = 16777216 := sizeLine_eq
      exact ⟨⟨by decide,by decide +kernel⟩,⟨nib2 hn.1,nib3 hn.2,by decide⟩,by decide,⟨nib0 n,nib1 n,by decide⟩,by rw [this]; decide,q1⟩
    refine key _ _ (comp_hex (fun m hm => hb m (.tail _ hm)) ?_)
    simpa using q
noncomputable def cutE : IE := .slice (.loc 1) (some (.loc 0)) (some (.bin .Add (.loc 0) (.c (.int 2))))
theorem comp_cut {k : Nat} {ns : List Int} (hb : Byt ns) (hl : ns.length ≤ 5) {Q : List AV → MH → Prop} : ∀ {m s : Nat} {acc : List AV},s + m = ns.length → Q (acc ++ ((ns.drop s).map figT).map .str) H →
    comps (wpq T (k + 8)).1 cutE none [some (.str (strN (hexs ns)))] ((List.range' s m).map fun (q : Nat) => AV.int (0 + (q : Int) * 2)) acc H Q
  | 0,s,acc,hs,q => by
    rw [List.drop_of_length_le (show ns.length ≤ s from Nat.le_of_eq hs.symm)] at q
    have q : Q (acc ++ []) H := q
    rw [List.append_nil] at q
    exact q
  | m + 1,s,acc,hs,q => by
    have hx := (hexs_in hb).2
    have h1 : s < ns.length := Nat.lt_of_lt_of_eq (Nat.lt_add_of_pos_right (Nat.succ_pos m)) hs
    have i0 : 0 ≤ 0 + (s : Int) * 2 := Int.natCast_nonneg (0 + s * 2)
    have iN : 0 + (s : Int) * 2 + 2 ≤ (hexs ns).length := show ((0 + s * 2 + 2 : Nat) : Int) ≤ _ from Int.ofNat_le.mpr (by rw [hx,Nat.zero_add,Nat.mul_comm s 2]; exact Nat.mul_le_mul_left 2 h1)
    have hM : (hexs ns).length ≤ 100000 := by rw [hx]; exact Le.too 10 (Nat.mul_le_mul_left 2 hl) rfl
    have iM := Int.le_trans iN (Int.ofNat_le.mpr hM)
    have i2 : 0 + (s : Int) * 2 ≤ 0 + (s : Int) * 2 + 2 := Int.le_add_of_nonneg_right (by decide)
    have e : Txt.slice (strN (hexs ns)) (some (0 + (s : Int) * 2)) (some (0 + (s : Int) * 2 + 2)) = figT (ns.getD s 0) := by
      rw [slice_mid i0 i2 iN,show (0 + (s : Int) * 2).toNat = 2 * s from by rw [Int.zero_add]; exact Nat.mul_comm s 2,Int.add_comm (0 + (s : Int) * 2) 2,Int.add_sub_cancel,show Int.toNat 2 = 2 from rfl,hexs_slice h1]
      rfl
    have key : ∀ (Q1 : AV → MH → Prop) X1,Q1 (.str (figT (ns.getD s 0))) H → (wpq T (k + 8)).1 cutE [some (.int (0 + (s : Int) * 2)),some (.str (strN (hexs ns)))] H Q1 X1 := by
      intro Q1 X1 q1
      simp only [↓wq1,cutE,↓ser17,↓ser2,List.getElem?_cons_succ,List.getElem?_cons_zero,↓eor2,↓ser4,↓ser1,↓vwi1,↓vsl6,strN_len,e,true_and]
      exact ⟨⟨i0,Int.le_trans i2 iM,Int.le_trans i0 i2,iM,hM⟩,q1⟩
    rw [List.range'_succ,List.map_cons]
    refine key _ _ (comp_cut hb hl ((Nat.add_right_comm s 1 m).trans hs) ?_)
    have e2 : (ns.drop s).map figT = figT (ns.getD s 0) :: (ns.drop (s + 1)).map figT := by
      simp only [List.drop_eq_getElem_cons h1,List.map_cons,List.getD_eq_getElem?_getD,List.getElem?_eq_getElem h1]
      rfl
    rw [e2] at q
    rw [List.append_assoc]
    exact q
end
section
variable {Tq T : Nat → Option Con} {args : List AV} {H : MH} {Q : AV → MH → Prop} {X : Nat → MH → Prop}
noncomputable def textB : List IS := [.asg 3 false (.bin .Add (.bin .Add (.loc 3) (.bin .Mult (.c (.str " ")) (.call 605 [.loc 0,.c (.int 2)]))) (.ife (.cmp (.call 605 [.loc 0,.c (.int 2)]) .Eq (.c (.int 0))) (.smeth .upper (.loc 4) []) (.loc 4)))]
theorem text_loop {k i : Nat} (t605 : T 605 = some drawC) (hi : i < H.length) {rest : MH} {B : Int} (hB : B ≤ 900000) {Q' : FL → Loc → MH → Prop} {o f s5 : Option AV} : ∀ {cs ts : List Nat} {y : Option AV} {a b : Int},
    (∀ c ∈ cs,∃ k : Int,0 ≤ k ∧ k < 16 ∧ c = hexN k.toNat) → (∀ c ∈ ts,c < 128) → ts.length + 2 * cs.length ≤ 20 → 0 ≤ a → 0 ≤ b → b + 2 * cs.length ≤ B →
    (∀ ts' y' a' b',(∀ c ∈ ts',c < 128) → ts'.length ≤ ts.length + 2 * cs.length → digitsN ts' = digitsN (ts ++ cs) → 0 ≤ a' → 0 ≤ b' → b' ≤ B → Q' .next [some (.mu i),o,f,some (.str (strN ts')),y',s5] (hP H i a' b' rest)) →
    forI (wpq T (k + 8)).2 [(4,false)] true textB X (cs.map fun c => AV.str (strN [c])) [some (.mu i),o,f,some (.str (strN ts)),y,s5] (hP H i a b rest) Q'
  | [],ts,y,a,b,hc,ht,hl,ha,hb,hbB,q => q ts y a b ht (by simp) (by rw [List.append_nil]) ha hb (by simpa using hbB)
  | c :: r,ts,y,a,b,hc,ht,hl,ha,hb,hbB,q => by
    refine byC fun no9 => ?_
    obtain ⟨z,z0,z1,hz⟩ := hc c (.head _)
    refine no9 ?_
    clear no9
    have hx := hexI z0 z1
    rw [← hz] at hx
    have hu : Txt.upper (strN [c]) = strN [upN c] := upper_a (ts := [c]) (fun x h => by simp at h; subst h; exact hx.1)
    have hlen : ts.length + 2 * r.length + 2 ≤ 20 := by simp only [List.length_cons] at hl; omega
    have hbB : b + 2 * r.length + 2 ≤ B := by simp only [List.length_cons] at hbB; lia
    show optP (bindT [(4,false)] true (.str (strN [c])) _) _
    simp only [bit1,bit2,sek1,sek2,↓opr,↓isr]
    have key : ∀ Q1 : FL → Loc → MH → Prop,(∀ d e a' b',0 ≤ d → d < 2 → 0 ≤ a' → 0 ≤ b' → b' ≤ b + 2 → (e = c ∨ e = upN c) → Q1 .next [some (.mu i),o,f,some (.str (strN (ts ++ List.replicate (Int.toNat d) 32 ++ [e]))),some (.str (strN [c])),s5] (hP H i a' b' rest)) →
        (wpq T (k + 8)).2 textB [some (.mu i),o,f,some (.str (strN ts)),some (.str (strN [c])),s5] (hP H i a b rest) Q1 X := by
      intro Q1 q1
      simp only [↓wq2,stepS,textB,↓sir1,↓wq1,↓ser4,↓ser2,List.getElem?_cons_succ,List.getElem?_cons_zero,↓ser1,↓ser11h,↓evr2,↓evr1,↓callH t605,view,↓ser10,↓ser5,↓isr,↓ser14,sek1,List.set_cons_succ,List.set_cons_zero,↓opr]
      refine ⟨i,2,a,b,rfl,hP_get hi,by decide,by decide,ha,hb,by lia,fun d a' b' h0 h1 h2 h3 h4 => ?_⟩
      rw [hP_set hi,blank_eq]
      simp only [↓biv3,↓biv2,↓callH t605]
      rw [strN_mul h0 h1,strN_app]
      have hd : (List.replicate d.toNat 32).length ≤ 1 := by simp; lia
      have hs : sizeLine = 16777216 := sizeLine_eq
      refine ⟨⟨by omega,by lia,by rw [strN_len]; decide⟩,by rw [strN_len,strN_len]; lia,?_⟩
      refine ⟨i,2,a',b',rfl,hP_get hi,by decide,by decide,h2,h3,by lia,fun d2 a2 b2 g0 g1 g2 g3 g4 => ?_⟩
      simp only [hP_set hi]
      simp only [↓cmr2,↓cmi1,↓opr]
      refine brB_of (fun _ => ?_) fun _ => ?_
      · simp only [↓smo6,↓smr3,strN_len,List.length_cons,List.length_nil,Nat.reduceAdd,↓biv2,hu,strN_app,true_and]
        refine ⟨by decide,?_,?_⟩
        · simp only [List.length_append]; lia
        simp only [seq_next]
        exact q1 d (upN c) a2 b2 h0 h1 g2 g3 (by lia) (.inr rfl)
      · simp only [strN_len,List.length_cons,List.length_nil,Nat.reduceAdd,strN_app]
        refine ⟨?_,?_⟩
        · simp only [List.length_append]; omega
        simp only [seq_next]
        exact q1 d c a2 b2 h0 h1 g2 g3 (by omega) (.inl rfl)
    refine key _ fun d e a' b' h0 h1 h2 h3 h4 he => ?_
    have hd : (List.replicate d.toNat 32).length ≤ 1 := by simp; omega
    have low : lowN e = c ∧ e < 128 := by
      rcases he with rfl | rfl
      · exact ⟨hx.2.1,hx.1⟩
      · exact ⟨hx.2.2.1,hx.2.2.2.1⟩
    have hdig : ∀ r,digitsN (ts ++ List.replicate d.toNat 32 ++ [e] ++ r) = digitsN (ts ++ c :: r) := by
      intro r
      have d1 : digitsN (List.replicate d.toNat 32) = some [] := by
        obtain h | h : d.toNat = 0 ∨ d.toNat = 1 := by lia
        · rw [h]; rfl
        · rw [h]; kernel_rfl
      have d2 : digitsN [e] = digitsN [c] := by
        rw [digitsN_c,digitsN_c,low.1,hx.2.1]
      simp only [show ts ++ c :: r = ts ++ ([c] ++ r) by simp,List.append_assoc,List.append_assoc,digits_app (a := ts),digits_app (a := ts),digits_app (a := List.replicate d.toNat 32),d1,digits_app (a := [e]),digits_app (a := [c]),d2]
      cases digitsN ts <;> cases digitsN [c] <;> cases digitsN r <;> simp
    refine text_loop t605 hi hB (fun x h => hc x (.tail _ h)) ?_ ?_ h2 h3 (by lia) ?_
    · intro x h
      rcases List.mem_append.mp h with h | h
      · rcases List.mem_append.mp h with h | h
        · exact ht x h
        · have := List.eq_of_mem_replicate h; lia
      · simp at h; rw [h]; exact low.2
    · simp only [List.length_append,List.length_cons,List.length_nil,↓opr,↓isr]; lia
    · intro ts' y' a2 b2 k1 k2 k3 k4 k5 k6
      refine q ts' y' a2 b2 k1 ?_ (by rw [k3]; exact hdig r) k4 k5 k6
      simp only [List.length_append,List.length_cons,List.length_nil] at k2 ⊢
      lia
inductive figrC (args : List AV) (H : MH) (Q : AV → MH → Prop) (X : Nat → MH → Prop) : Prop where
  | mk : ∀ i a b,(args = [.mu i]) → (H[i]? = some [.int a,.int b]) → (0 ≤ a) → (0 ≤ b) → (b ≤ 800000) → (∀ a' b' rest,Q (.bool true) (hP H i a' b' rest)) → figrC args H Q X
theorem figr_wp (q605 : Tq 605 = some drawC) (t605 : T 605 = some drawC) (t139 : T 139 = some octtC) (t144 : T 144 = some octsC) (t612 : T 612 = some pickC)
    (h : figrC args H Q X) : BodyL Tq T lo_law_figures_right ir_law_figures_right args H Q X := by
  obtain ⟨i,a,b,rfl,hi,ha,hb,hbB,q⟩ := h
  refine ⟨rfl,?_⟩
  have hil : i < H.length := (List.getElem?_eq_some_iff.mp hi).1
  rw [hP_0 hi]
  generalize hH0 : H = H0 at *
  simp only [↓wl2,stepS,ir_law_figures_right,↓sir1,↓wl1,↓ser12,↓evr2,↓ser20,↓ser11h,↓ser2,mapC,mapN,lo_law_figures_right,List.length_cons,List.length_nil,Nat.reduceAdd,Nat.reduceSub,List.replicate,List.cons_append,List.nil_append,List.getElem?_cons_zero,↓ser1,↓evr1,↓callH t605,view,sek1,List.set_cons_succ,List.set_cons_zero,↓bfr14,↓opr]
  refine ⟨i,6,a,b,rfl,hP_get hil,by decide,by decide,ha,hb,by (exact Int.le_trans (by assumption) (by decide)),fun d a' b' h0 h1 ha hb hb' => ?_⟩
  rw [hP_set hil]
  obtain ⟨m,rfl⟩ := Int.eq_ofNat_of_zero_le h0
  have hit := its_1 (n := m) (Le.too 5 (Nat.le_of_lt_succ (Int.ofNat_lt.mp h1)) rfl)
  simp only [↓bfr11,hit,↓opr]
  have hlen : ((List.range m).map fun (i : Nat) => AV.int (0 + (i : Int) * 1)).length ≤ 5 := by
    rw [List.length_map,List.length_range]
    exact Nat.le_of_lt_succ (Int.ofNat_lt.mp h1)
  refine ⟨by (exact Nat.le_trans (by assumption) (by decide)),?_⟩
  refine comp_draw (k := 15) q605 hil (B := 810000) (by decide) ha hb (Int.le_trans (Int.add_le_add (Int.le_trans hb' (Int.add_le_add_right hbB 1)) (Int.ofNat_le.mpr hlen)) (by decide)) fun ns a b en hB ha hb hbB => ?_
  have hns : ns.length ≤ 5 := by rw [en]; exact hlen
  simp only [List.nil_append]
  refine ⟨ns,rfl,hB,by (exact Nat.le_trans (by assumption) (by decide)),?_⟩
  simp only [seq_next]
  have est := strsOf_ok (xs := ns.map figT)
  have hsum : ((ns.map figT).map (·.length)).sum ≤ 10 := by
    have : ((ns.map figT).map (·.length)).sum ≤ 2 * ns.length := by
      clear est hB en hns
      induction ns with
      | nil => decide
      | cons n r ih => simp only [mapC,List.sum_cons,List.length_cons]; rw [Nat.add_comm]; exact Nat.add_le_add_right ih 2
    exact Nat.le_trans this (Nat.mul_le_mul_left 2 hns)
  have hml : (ns.map figT).length = ns.length := List.length_map _
  have hs0 : ((ns.map figT).map (·.length)).sum + (ns.map figT).length ≤ 1048576 := Nat.le_trans (Nat.add_le_add hsum (Nat.le_trans (Nat.le_of_eq hml) hns)) (by decide)
  have ehex : Txt.join (strN []) (ns.map figT) = strN (hexs ns) := by rw [join_is,join_hex]
  obtain ⟨hx1,hx2⟩ := hexs_in hB
  have ib : itemsOf (.bytes ns) = some (ns.map .int) := rfl
  simp only [↓wl2,stepS,↓sir1,↓wl1,↓ser14,↓ser1,↓smo8,↓evr2,↓ser20,↓ser2,List.getElem?_cons_succ,List.getElem?_cons_zero,ib,mapN,↓evr1,sek2,List.set_cons_succ,List.set_cons_zero,↓opr,true_and]
  refine ⟨by simp; (exact Nat.le_trans (by assumption) (by decide)),comp_hex (k := 14) hB ?_⟩
  simp only [↓smr5,view,List.nil_append,avl,emp_eq,↓opr,est,ehex]
  refine ⟨⟨hs0,by decide⟩,?_⟩
  simp only [seq_next]
  have ir : itemsOf (.rng 0 (((strN (hexs ns)).length : Nat) : Int) 2) = some ((List.range' 0 ns.length).map fun (q : Nat) => AV.int (0 + (q : Int) * 2)) := by
    rw [strN_len,hx2,← List.range_eq_range']
    exact its_2 (Le.too 5 hns rfl)
  have hx9 : (hexs ns).length ≤ 10 := by rw [hx2]; exact Nat.mul_le_mul_left 2 hns
  have hx8 : 2 * (hexs ns).length ≤ 20 := Nat.mul_le_mul_left 2 hx9
  simp only [↓wl2,stepS,↓sir4,↓wl1,↓ser5,↓ser11h,↓evr2,↓ser2,List.getElem?_cons_succ,List.getElem?_cons_zero,↓evr1,↓callH t139,↓ser14,↓ser1,↓smo8,↓ser20,↓ser12,mapC,view,mapN,↓smr5,avl,↓isr,↓sir7,↓bfr7,↓bfr13,↓opr]
  refine ⟨ns,rfl,hB,hns,?_⟩
  simp only [ir,↓cmr3,↓opr,true_and]
  have hoct : Txt.join (Str.ofString " ") (ns.map figT) = octT ns := rfl
  refine ⟨by rw [strN_len]; exact Le.too 10 hx9 rfl,⟨by decide,by decide⟩,by simp; exact Le.too 5 hns rfl,comp_cut (k := 12) hB hns (Nat.zero_add _) ?_⟩
  simp only [dropZ,List.nil_append,est,cmpS,↓opr,hoct,decide_true,notT,↓brCF]
  refine ⟨⟨hs0,by decide +kernel⟩,?_⟩
  simp only [seq_next]
  simp only [↓wl2,stepS,↓sir1,↓wl1,↓ser1,sek1,List.set_cons_succ,List.set_cons_zero,↓opr]
  simp only [seq_next]
  have i3 : itemsOf (.str (strN (hexs ns))) = some ((hexs ns).map fun c => .str (strN [c])) := items_str
  simp only [↓wl2,stepS,↓sir5,↓wl1,↓ser2,List.getElem?_cons_succ,List.getElem?_cons_zero,i3,↓opr]
  refine text_loop (k := 13) q605 hil (B := 820000) (by decide) (ts := []) hx1 (fun c h => (List.not_mem_nil h).elim) (by simp; exact hx8) ha hb (Int.le_trans (Int.add_le_add hbB (Int.ofNat_le.mpr hx8)) (by decide)) fun ts y a b t1 t2 t3 ha hb hbB => ?_
  simp only [List.nil_append,digits_hexs hB] at t3
  have t2 : ts.length ≤ 20 := by simp only [List.length_nil,Nat.zero_add] at t2; exact Nat.le_trans t2 hx8
  obtain ⟨d1,d2⟩ := pairs_digs hB
  have d3 : ¬ (digs ns).length % 2 = 1 := by rw [d2]; decide
  simp only [seq_next]
  simp only [↓wl2,stepS,↓sir4,↓wl1,↓ser9,↓orr2,↓ser5,↓ser11h,↓evr2,↓ser2,List.getElem?_cons_succ,List.getElem?_cons_zero,↓evr1,↓callH t144,view,↓isr,↓sir7,↓ser1,↓orr1]
  refine ⟨ts,rfl,t1,by (exact Nat.le_trans (by assumption) (by decide)),fun l1 => ?_⟩
  rw [t3]
  dsimp only
  rw [if_neg d3,d1]
  simp only [↓cmr5,decide_true,↓brCT,↓callH t139,eqo2,notT,↓brCF]
  refine ⟨ns,rfl,hB,hns,?_⟩
  refine byC fun no9 => ?_
  obtain ⟨o1,o2⟩ := octN_in hB
  refine no9 ?_
  clear no9
  refine callI t144 ⟨octN ns,by rw [join_oct],o1,Nat.le_trans o2 (Le.too 15 (Nat.mul_le_mul_left 3 hns) rfl),fun l2 => ?_⟩
  rw [digits_octN hB]
  dsimp only
  rw [if_neg d3,d1]
  simp only [↓cmr5,decide_true,eqo2,notT,↓brCF]
  rw [hP_app,hP_app]
  generalize hr : ([] ++ [l1] ++ [l2] : MH) = rest
  simp only [seq_next]
  simp only [↓wl2,stepS,↓sir1,↓wl1,↓ser11h,↓evr2,↓ser2,List.getElem?_cons_zero,↓ser4,↓ser12,List.getElem?_cons_succ,↓evr1,mapC,view,mapN,↓ser1,↓callH t605,sek1,List.set_cons_succ,List.set_cons_zero,↓opr,↓bfr7,↓biv1,↓bii1,true_and]
  rw [strN_len]
  have hp2 : ((ts.length : Int) + 1) ≤ 2 ^ 130 := Int.le_trans (Int.add_le_add_right (Int.ofNat_le.mpr t2) 1) (by decide)
  refine ⟨by (exact Nat.le_trans (by assumption) (by decide)),i,_,a,b,rfl,hP_get hil,Int.le_add_of_nonneg_left (Int.natCast_nonneg _),hp2,ha,hb,Le.to 820000 hbB rfl,fun d a' b' d0 d1' ha' hb' hb2 => ?_⟩
  simp only [hP_set hil]
  simp only [seq_next]
  have d4 := Int.le_of_lt_add_one d1'
  have d5 : d ≤ 100000 := Int.le_trans d4 (Le.to 20 (Int.ofNat_le.mpr t2) rfl)
  have s1 : Txt.slice (strN ts) none (some d) = strN (ts.take d.toNat) := slice_to d0 d4
  have s2 : Txt.slice (strN ts) (some d) none = strN (ts.drop d.toNat) := slice_from d0 d4
  have hs : sizeLine = 16777216 := sizeLine_eq
  simp only [↓wl2,stepS,↓sir11,↓wl1,↓ser11h,↓evr2,↓ser4,↓ser17,↓ser2,List.getElem?_cons_succ,List.getElem?_cons_zero,↓eor1,↓eor2,↓vsl4,↓ser19,↓ser1,↓evr1,List.length_cons,List.length_nil,Nat.reduceAdd,↓callH t612,view,↓slr5,true_and]
  refine ⟨⟨d0,d5,by rw [strN_len]; (exact Nat.le_trans (by assumption) (by decide))⟩,by decide,i,_,a',b',rfl,hP_get hil,(fun h => nomatch h),by decide,ha',hb',Int.le_trans hb2 (Int.le_trans (Int.add_le_add_right hbB 1) (by decide)),fun v hv a2 b2 ha2 hb2' hb3 => ?_⟩
  rw [hP_set hil]
  obtain ⟨c,rfl,hc8,hc⟩ : ∃ c : Nat,v = .str (strN [c]) ∧ c < 128 ∧ (c = 48 ∨ c = 103 ∨ c = 70 ∨ c = 45 ∨ c = 46 ∨ c = 120 ∨ c = 10) := by
    simp only [List.mem_cons,List.not_mem_nil,or_false] at hv
    rcases hv with rfl | rfl | rfl | rfl | rfl | rfl | rfl
    · exact ⟨48,by kernel_rfl,of_decide_eq_true rfl,of_decide_eq_true rfl⟩
    · exact ⟨103,by kernel_rfl,of_decide_eq_true rfl,of_decide_eq_true rfl⟩
    · exact ⟨70,by kernel_rfl,of_decide_eq_true rfl,of_decide_eq_true rfl⟩
    · exact ⟨45,by kernel_rfl,of_decide_eq_true rfl,of_decide_eq_true rfl⟩
    · exact ⟨46,by kernel_rfl,of_decide_eq_true rfl,of_decide_eq_true rfl⟩
    · exact ⟨120,by kernel_rfl,of_decide_eq_true rfl,of_decide_eq_true rfl⟩
    · exact ⟨10,by kernel_rfl,of_decide_eq_true rfl,of_decide_eq_true rfl⟩
  simp only [↓biv2,s1,strN_len,List.length_cons,List.length_nil,Nat.reduceAdd,strN_app,s2,↓callH t144]
  have k1 : (ts.take d.toNat).length ≤ 20 := by rw [List.length_take]; exact Nat.le_trans (Nat.min_le_right _ _) t2
  have k2 : (ts.drop d.toNat).length ≤ 20 := by rw [List.length_drop]; exact Nat.le_trans (Nat.sub_le _ _) t2
  refine ⟨hs ▸ Le.too 21 (Nat.succ_le_succ k1) rfl,⟨d0,d5,Le.too 20 t2 rfl⟩,by rw [List.length_append,List.length_singleton,hs]; exact Le.too 41 (Nat.add_le_add (Nat.succ_le_succ k1) k2) rfl,_,rfl,?_,?_,fun l => ?_⟩
  · intro x hx
    rcases List.mem_append.mp hx with hx | hx
    · rcases List.mem_append.mp hx with hx | hx
      · exact t1 x (List.mem_of_mem_take hx)
      · rw [List.mem_singleton.mp hx]; exact hc8
    · exact t1 x (List.mem_of_mem_drop hx)
  · rw [List.length_append,List.length_append,List.length_singleton]; exact Le.too 41 (Nat.add_le_add (Nat.succ_le_succ k1) k2) rfl
  have hst := strange (a := ts.take d.toNat) (b := ts.drop d.toNat) hB (by rw [List.take_append_drop]; exact t3) hc
  rw [hP_app]
  cases hdd : digitsN (ts.take d.toNat ++ [c] ++ ts.drop d.toNat) with
  | none => exact ⟨rfl,q _ _ _⟩
  | some ds =>
    rw [hdd] at hst
    have hst : ds.length % 2 = 1 := hst
    dsimp only
    rw [if_pos hst]
    exact ⟨rfl,q _ _ _⟩
end
noncomputable def runR (args : List AV) : ER AV := if args.length = 1 then retC ((evl (runF 8) (runF 8) 26).2 ir_law_is_refused (args.map some)) else .no
noncomputable def refC : Con := fun args H Q X => (runR args).holds H Q X
noncomputable def regsC : Con := fun args H Q X => ∃ s : Int,args = [.int s] ∧ (s = 8 ∨ s = 16 ∨ s = 32 ∨ s = 64 ∨ s = 128) ∧ Q (.lst (regL s)) H
noncomputable def TQ : Nat → Option Con := fun g => if g = 605 then some drawC else if g = 612 then some pickC else some (evCon 8 g)
noncomputable def TL : Nat → Option Con := fun g => if g = 605 then some drawC else if g = 612 then some pickC else if g = 303 then some regsC else if g = 638 then some refC else some (evCon 8 g)
noncomputable def CQ : EvF := fun g a => if g = 605 then .no else if g = 612 then .no else runF 8 g a
noncomputable def CL : EvF := fun g a => if g = 605 then .no else if g = 612 then .no else if g = 303 then .no else if g = 638 then runR a else runF 8 g a
theorem simQ : SimC CQ TQ := fun g args H Q X h => by
  unfold CQ at h
  unfold TQ
  split at h
  · exact h.elim
  · rename_i h1
    rw [if_neg h1]
    split at h
    · exact h.elim
    · rename_i h2; rw [if_neg h2]; exact h
theorem simL : SimC CL TL := fun g args H Q X h => by
  unfold CL at h
  unfold TL
  split at h
  · exact h.elim
  · rename_i h1
    rw [if_neg h1]
    split at h
    · exact h.elim
    · rename_i h2
      rw [if_neg h2]
      split at h
      · exact h.elim
      · rename_i h3
        rw [if_neg h3]
        split at h
        · rename_i h4; rw [if_pos h4]; exact h
        · rename_i h4; rw [if_neg h4]; exact h
section
variable {args : List AV} {H : MH} {Q : AV → MH → Prop} {X : Nat → MH → Prop}
theorem ref_wp (h : refC args H Q X) : BodyL (evT 8) (evT 8) lo_law_is_refused ir_law_is_refused args H Q X := by
  unfold refC runR at h
  split at h
  · rename_i hl
    refine ⟨hl,(evl_ok (simC_ev 8) (simC_ev 8) 26).2 _ _ _ _ _ ?_⟩
    rw [show lo_law_is_refused.2.1.length - lo_law_is_refused.1.length = 0 from rfl,List.replicate,List.append_nil]
    exact retC_holds h
  · exact h.elim
noncomputable def isTr (r : ER AV) : Bool := match r with | .ok v => (match v with | .bool b => b | _ => false) | _ => false
theorem isTr_eq {r : ER AV} (h : isTr r = true) : r = .ok (.bool true) := by
  cases r <;> first | exact falseX h | skip
  rename_i v
  cases v <;> first | exact falseX h | skip
  exact congrArg (fun b => ER.ok (AV.bool b)) h
noncomputable def rowB (v : AV) : Bool := isTr (retC ((evl CQ CL 26).2 ir_law_row_right (some v :: List.replicate 9 none)))
end
theorem rows_r0 : ((rowsL.drop 0).take 12).all rowB = true := by kernel_rfl
theorem rows_r1 : ((rowsL.drop 12).take 12).all rowB = true := by kernel_rfl
theorem rows_r2 : ((rowsL.drop 24).take 12).all rowB = true := by kernel_rfl
theorem rows_r3 : ((rowsL.drop 36).take 12).all rowB = true := by kernel_rfl
theorem rows_r4 : ((rowsL.drop 48).take 12).all rowB = true := by kernel_rfl
theorem rows_r5 : ((rowsL.drop 60).take 12).all rowB = true := by kernel_rfl
theorem rows_r6 : ((rowsL.drop 72).take 12).all rowB = true := by kernel_rfl
theorem all_split {α : Type} {p : α → Bool} {l : List α} {k : Nat} (h1 : (l.take k).all p = true) (h2 : (l.drop k).all p = true) : l.all p = true := by
  rw [← List.take_append_drop k l,List.all_append,h1,h2]; rfl
theorem rows_r : rowsL.all rowB = true := by
  have e : ∀ k,(rowsL.drop k).drop 12 = rowsL.drop (k + 12) := fun k => by rw [List.drop_drop]
  refine all_split (k := 12) rows_r0 ?_
  refine all_split (k := 12) rows_r1 ?_
  rw [e]
  refine all_split (k := 12) rows_r2 ?_
  rw [e]
  refine all_split (k := 12) rows_r3 ?_
  rw [e]
  refine all_split (k := 12) rows_r4 ?_
  rw [e]
  refine all_split (k := 12) rows_r5 ?_
  rw [e]
  refine all_split (k := 12) rows_r6 ?_
  rw [e]
  have : rowsL.length = 84 := by kernel_rfl
  rw [List.drop_of_length_le (by exact Nat.le_refl _)]
  rfl
section
variable {args : List AV} {H : MH} {Q : AV → MH → Prop} {X : Nat → MH → Prop}
noncomputable def rowC : Con := fun args H Q X => ∃ v,args = [v] ∧ v ∈ rowsL ∧ Q (.bool true) H
theorem row_wp (h : rowC args H Q X) : BodyL TQ TL lo_law_row_right ir_law_row_right args H Q X := by
  obtain ⟨v,rfl,hv,q⟩ := h
  have hr := List.all_eq_true.mp rows_r v hv
  refine ⟨rfl,(evl_ok simQ simL 26).2 _ _ _ _ _ ?_⟩
  refine retC_holds ?_
  have e' : retC ((evl CQ CL 26).2 ir_law_row_right (([v] : List AV).map some ++ List.replicate (lo_law_row_right.2.1.length - lo_law_row_right.1.length) none)) = .ok (.bool true) := isTr_eq hr
  rw [e']
  exact q
end
noncomputable def isNo (v : AV) : Bool := match v with | .none => true | _ => false
noncomputable def isNoneR (r : ER AV) : Bool := match r with | .ok v => isNo v | _ => false
noncomputable def nameOf (v : AV) : Str := match v with | .tup (.str nm :: _) => nm | _ => ""
noncomputable def upB (v : AV) : Bool := isNoneR (runF 8 270 [.str (Txt.upper (nameOf v))])
noncomputable def sufB (s : Str) (v : AV) : Bool := isNoneR (runF 8 270 [.str (nameOf v ++ s)])
theorem rows_all {p : AV → Bool} (h0 : ((rowsL.drop 0).take 12).all p = true) (h1 : ((rowsL.drop 12).take 12).all p = true) (h2 : ((rowsL.drop 24).take 12).all p = true) (h3 : ((rowsL.drop 36).take 12).all p = true) (h4 : ((rowsL.drop 48).take 12).all p = true) (h5 : ((rowsL.drop 60).take 12).all p = true) (h6 : ((rowsL.drop 72).take 12).all p = true) : rowsL.all p = true := by
  have e : ∀ k,(rowsL.drop k).drop 12 = rowsL.drop (k + 12) := fun k => by rw [List.drop_drop]
  refine all_split (k := 12) h0 ?_
  refine all_split (k := 12) h1 ?_
  rw [e]
  refine all_split (k := 12) h2 ?_
  rw [e]
  refine all_split (k := 12) h3 ?_
  rw [e]
  refine all_split (k := 12) h4 ?_
  rw [e]
  refine all_split (k := 12) h5 ?_
  rw [e]
  refine all_split (k := 12) h6 ?_
  rw [e]
  have : rowsL.length = 84 := by kernel_rfl
  rw [List.drop_of_length_le (by omega)]
  rfl
theorem ups : rowsL.all upB = true := rows_all (by kernel_rfl) (by kernel_rfl) (by kernel_rfl) (by kernel_rfl) (by kernel_rfl) (by kernel_rfl) (by kernel_rfl)
theorem suf1 : rowsL.all (sufB "x") = true := rows_all (by kernel_rfl) (by kernel_rfl) (by kernel_rfl) (by kernel_rfl) (by kernel_rfl) (by kernel_rfl) (by kernel_rfl)
theorem suf2 : rowsL.all (sufB " ") = true := rows_all (by kernel_rfl) (by kernel_rfl) (by kernel_rfl) (by kernel_rfl) (by kernel_rfl) (by kernel_rfl) (by kernel_rfl)
theorem suf3 : rowsL.all (sufB "%") = true := rows_all (by kernel_rfl) (by kernel_rfl) (by kernel_rfl) (by kernel_rfl) (by kernel_rfl) (by kernel_rfl) (by kernel_rfl)
theorem suf4 : rowsL.all (sufB "_") = true := rows_all (by kernel_rfl) (by kernel_rfl) (by kernel_rfl) (by kernel_rfl) (by kernel_rfl) (by kernel_rfl) (by kernel_rfl)
theorem lens : rowsL.all (fun v => decide ((nameOf v).length ≤ 10)) = true := by kernel_rfl
noncomputable def trueR (r : ER AV) : Bool := isTr r
theorem segs : rowsL.all (fun v => trueR (runR [.fn 8 [v]])) = true := by kernel_rfl
theorem asks_ok : [AV.fn 1 [],.fn 2 [],.fn 3 [],.fn 4 [],.fn 5 [],.fn 6 [],.fn 7 []].all (fun v => trueR (runR [v])) = true := by kernel_rfl
theorem trueR_eq {r : ER AV} (h : trueR r = true) : r = .ok (.bool true) := isTr_eq h
theorem ev_eq {n g : Nat} {args : List AV} {v : AV} {H : MH} {Q : AV → MH → Prop} {X : Nat → MH → Prop} (h : runF n g args = .ok v) (q : Q v H) : evCon n g args H Q X := by unfold evCon; rw [h]; exact q
theorem ref_eq {args : List AV} {v : AV} {H : MH} {Q : AV → MH → Prop} {X : Nat → MH → Prop} (h : runR args = .ok v) (q : Q v H) : refC args H Q X := by unfold refC; rw [h]; exact q
noncomputable def nxA {β : Type} (r : ER (FL × Loc)) (k : Loc → Option β) : Option β := match r with
  | .ok q => (match q.1 with | .next => k q.2 | .cont => none | .brk => none | .ret _ => none)
  | .ex _ => none
  | .no => none
theorem nxA_eq {β : Type} {r : ER (FL × Loc)} {k : Loc → Option β} {v : β} (h : nxA r k = some v) : ∃ l1,r = .ok (.next,l1) ∧ k l1 = some v := by
  rcases r with ⟨fl,l1⟩ | c | _
  · cases fl <;> first | exact noneX h | exact ⟨l1,rfl,h⟩
  · exact noneX h
  · exact noneX h
noncomputable def segC (Cq C : EvF) : Nat → List IS → Loc → Option Loc
  | _,[],l => some l
  | 0,_ :: _,_ => none
  | k + 1,st :: r,l => nxA (evStepI false (evq Cq k).2 (evl Cq C k).1 (evl Cq C k).2 st l) fun l1 => segC Cq C k r l1
section
variable {Cq C : EvF} {Tq T : Nat → Option Con} {args : List AV} {H : MH} {X : Nat → MH → Prop}
theorem seg_ok (hq : SimC Cq Tq) (hC : SimC C T) {Q : FL → Loc → MH → Prop} : ∀ {b1 b2 : List IS} {n : Nat} {l l' : Loc},segC Cq C (n + b1.length) b1 l = some l' → (wps Tq T n).2 b2 l' H Q X → (wps Tq T (n + b1.length)).2 (b1 ++ b2) l H Q X
  | [],b2,n,l,l',e,h => by
    have e : some l = some l' := by
      have : segC Cq C n [] l = some l' := e
      cases n <;> exact this
    cases Option.some.inj e; exact h
  | st :: r,b2,n,l,l',e,h => by
    have e : nxA (evStepI false (evq Cq (n + r.length)).2 (evl Cq C (n + r.length)).1 (evl Cq C (n + r.length)).2 st l) (fun l1 => segC Cq C (n + r.length) r l1) = some l' := e
    show stepI false (wpq Tq (n + r.length)).1 (wpq Tq (n + r.length)).2 (wps Tq T (n + r.length)).1 (wps Tq T (n + r.length)).2 st l H (seqQ (wps Tq T (n + r.length)).2 (r ++ b2) Q X) X
    obtain ⟨l1,hs,e⟩ := nxA_eq e
    refine simI_step (evl_ok hq hC _).1 (evl_ok hq hC _).2 (evq_ok hq _).2 ?_
    rw [hs]
    exact seg_ok hq hC e h
end
section
variable {args : List AV} {H : MH} {Q : AV → MH → Prop} {X : Nat → MH → Prop}
theorem tl605 : TL 605 = some drawC := rfl
theorem tl612 : TL 612 = some pickC := rfl
theorem tl303 : TL 303 = some regsC := rfl
theorem tl638 : TL 638 = some refC := rfl
theorem tl270 : TL 270 = some (evCon 8 270) := rfl
inductive namesC (args : List AV) (H : MH) (Q : AV → MH → Prop) (X : Nat → MH → Prop) : Prop where
  | mk : ∀ i a b,(args = [.mu i,.lst rowsL]) → (H[i]? = some [.int a,.int b]) → (0 ≤ a) → (0 ≤ b) → (b ≤ 800000) → (∀ a' b',0 ≤ a' → 0 ≤ b' → b' ≤ b + 100 → Q (.bool true) (H.set i [.int a',.int b'])) → namesC args H Q X
noncomputable def dueL (s : Int) : List AV := rowsL.filterMap fun v => match v with | .tup [.str nm,.str _,.int _,.int _,.int z] => if z = s then some (.str nm) else none | _ => none
noncomputable def names0 : List AV := [.str "al",.str "cl",.str "dl",.str "bl",.str "spl",.str "bpl",.str "sil",.str "dil"]
noncomputable def dueE : IS := .asg 3 false (.comp false (.idx (.loc 0) (.c (.int 0))) "row" [2] (.loc 1) (some (.cmp (.idx (.loc 0) (.c (.int 4))) .Eq (.loc 1))))
theorem seg1 (x0 : Option AV) (s : Int) (hs : s = 8 ∨ s = 16 ∨ s = 32 ∨ s = 64 ∨ s = 128) (x3 x4 x5 x6 x7 x8 x9 x10 : Option AV) : segC CQ CL (24 + [dueE].length) [dueE] [x0,some (.lst rowsL),some (.int s),x3,x4,x5,x6,x7,x8,x9,x10] = some [x0,some (.lst rowsL),some (.int s),some (.lst (dueL s)),x4,x5,x6,x7,x8,x9,x10] := by
  rcases hs with rfl | rfl | rfl | rfl | rfl <;> kernel_rfl
theorem told_due (s : Int) (hs : s = 8 ∨ s = 16 ∨ s = 32 ∨ s = 64 ∨ s = 128) : compsC (evq CQ 21).1 (.meth 193 (.loc 0) []) none [] (regL s) [] = some (dueL s) := by
  rcases hs with rfl | rfl | rfl | rfl | rfl <;> kernel_rfl
theorem due_due (s : Int) (hs : s = 8 ∨ s = 16 ∨ s = 32 ∨ s = 64 ∨ s = 128) : cmpC .NotEq (.lst (dueL s)) (.lst (dueL s)) = some false := by
  rcases hs with rfl | rfl | rfl | rfl | rfl <;> kernel_rfl
theorem reg_len (s : Int) (hs : s = 8 ∨ s = 16 ∨ s = 32 ∨ s = 64 ∨ s = 128) : (regL s).length ≤ 100000 := by
  rcases hs with rfl | rfl | rfl | rfl | rfl <;> exact of_decide_eq_true (by kernel_rfl)
theorem ne_lst {xs ys : List AV} {p q : Prop} (h : cmpC .NotEq (.lst xs) (.lst ys) = some false) (hq : q) : ∃ d e,IsPy xs d ∧ IsPy ys e ∧ PySem.SeqAt.shaped (.list d) = true ∧ PySem.SeqAt.shaped (.list e) = true ∧ brB (!PyData.eqvAll d e) p q :=
  cmpC_ok (H := []) (k := fun c => brB c p q) h (brB_f hq)
noncomputable def nameB : List IS := [.asg 6 false (.lst false [.c (.str "al"),.c (.str "cl"),.c (.str "dl"),.c (.str "bl"),.c (.str "spl"),.c (.str "bpl"),.c (.str "sil"),.c (.str "dil")]),.asg 7 false (.ife (.cmp (.loc 4) .Lt (.c (.int 8))) (.idx (.loc 6) (.loc 4)) (.bin .Add (.bin .Add (.c (.str "r")) (.bcall .str [.loc 4])) (.c (.str "b")))),.iff (.and [.not (.loc 5),.chain (.c (.int 4)) .LtE (.loc 4) .Lt (.c (.int 8))]) [.asg 7 false (.idx (.lst false [.c (.str "ah"),.c (.str "ch"),.c (.str "dh"),.c (.str "bh")]) (.bin .Sub (.loc 4) (.c (.int 4))))] [],.asg 8 false (.lst false [.c (.str ""),.c (.str "r"),.c (.str "AL"),.c (.str "eaxx"),.c (.str "r16"),.c (.str "r07"),.c (.str "r8x"),.c (.str "r8bd"),.c (.str "xmm"),.c (.str "xmm16"),.c (.str "xmm01"),.c (.str "rflags"),.c (.str "cs"),.c (.str "es"),.c (.str "%al"),.c (.str "al "),.c (.str "st0"),.c (.str "r-8")])]
noncomputable def strangeL : List AV := [.str "",.str "r",.str "AL",.str "eaxx",.str "r16",.str "r07",.str "r8x",.str "r8bd",.str "xmm",.str "xmm16",.str "xmm01",.str "rflags",.str "cs",.str "es",.str "%al",.str "al ",.str "st0",.str "r-8"]
noncomputable def condA : IE := .cmp (.meth 193 (.call 235 [.loc 4,.loc 5]) []) .NotEq (.loc 7)
noncomputable def asksB : List IS := [.iff (.or [.cmp (.comp false (.attr (.call 256 [.loc 0]) 196 2) "name" [] (.tup [.c (.str "fs"),.c (.str "gs")]) none) .NotEq (.lst false [.c (.int 4),.c (.int 5)]),.not (.call 277 [.c .none,.c .none])]) [.ret (.c (.bool false))] [],.asg 10 false (.lst false [.lam 1 [],.lam 2 [],.lam 3 [],.lam 4 [],.lam 5 [],.lam 6 [],.lam 7 []])]
noncomputable def asksL : List AV := [.fn 1 [],.fn 2 [],.fn 3 [],.fn 4 [],.fn 5 [],.fn 6 [],.fn 7 []]
noncomputable def highs : List Str := ["ah","ch","dh","bh"]
noncomputable def lows8 : List Str := ["al","cl","dl","bl","spl","bpl","sil","dil"]
noncomputable def octV (d e : Int) : Str := if e = 0 ∧ 4 ≤ d ∧ d < 8 then highs.getD (d - 4).toNat "" else if d < 8 then lows8.getD d.toNat "" else "r" ++ textOf d ++ "b"
theorem below16n : ∀ n : Nat,n < 16 → (n : Int) = 0 ∨ (n : Int) = 1 ∨ (n : Int) = 2 ∨ (n : Int) = 3 ∨ (n : Int) = 4 ∨ (n : Int) = 5 ∨ (n : Int) = 6 ∨ (n : Int) = 7 ∨ (n : Int) = 8 ∨ (n : Int) = 9 ∨ (n : Int) = 10 ∨ (n : Int) = 11 ∨ (n : Int) = 12 ∨ (n : Int) = 13 ∨ (n : Int) = 14 ∨ (n : Int) = 15 := by decide
theorem below16 {d : Int} (h0 : 0 ≤ d) (h1 : d < 16) : d = 0 ∨ d = 1 ∨ d = 2 ∨ d = 3 ∨ d = 4 ∨ d = 5 ∨ d = 6 ∨ d = 7 ∨ d = 8 ∨ d = 9 ∨ d = 10 ∨ d = 11 ∨ d = 12 ∨ d = 13 ∨ d = 14 ∨ d = 15 := by
  obtain ⟨n,rfl⟩ := Int.eq_ofNat_of_zero_le h0
  exact below16n n (Int.ofNat_lt.mp h1)
theorem seg2 (x0 x1 x2 x3 x6 x7 x8 x9 x10 : Option AV) (d e : Int) (d0 : 0 ≤ d) (d1 : d < 16) (e0 : 0 ≤ e) (e1 : e < 2) :
    segC CQ CL (18 + nameB.length) nameB [x0,x1,x2,x3,some (.int d),some (.bool (decide (e = 1))),x6,x7,x8,x9,x10] = some [x0,x1,x2,x3,some (.int d),some (.bool (decide (e = 1))),some (.lst names0),some (.str (octV d e)),some (.lst strangeL),x9,x10] ∧
    (evl CQ CL 16).1 condA [x0,x1,x2,x3,some (.int d),some (.bool (decide (e = 1))),some (.lst names0),some (.str (octV d e)),some (.lst strangeL),x9,x10] = .ok (.bool false) := by
  obtain rfl | rfl : e = 0 ∨ e = 1 := by lia
  all_goals
    rcases below16 d0 d1 with rfl | rfl | rfl | rfl | rfl | rfl | rfl | rfl | rfl | rfl | rfl | rfl | rfl | rfl | rfl | rfl <;>
    exact ⟨by kernel_rfl,by kernel_rfl⟩
theorem strange_ok : strangeL.all (fun v => isNoneR (runF 8 270 [v])) = true := by kernel_rfl
theorem or_f {fe : EvE} {f : EF} (hs : SimE fe f) {A B : IE} {r : List IE} {l : Loc} {H : MH} {Q : AV → MH → Prop} {X : Nat → MH → Prop} (h : fe A l = .ok (.bool false)) (q : ors f (B :: r) l H Q X) : ors f (A :: B :: r) l H Q X := hs _ _ _ _ _ (by rw [h]; exact brB_f q)
theorem isNoneR_eq {r : ER AV} (h : isNoneR r = true) : r = .ok .none := by
  cases r <;> first | exact falseX h | skip
  rename_i v
  cases v <;> first | exact falseX h | rfl
theorem suf_eq {s nm kd : Str} {n lo z : Int} (h : rowsL.all (sufB s) = true) (hv : rowV nm kd n lo z ∈ rowsL) : runF 8 270 [.str (nm ++ s)] = .ok .none := by
  have h2 := List.all_eq_true.mp h _ hv
  unfold sufB at h2
  have e : nameOf (rowV nm kd n lo z) = nm := rfl
  rw [e] at h2
  exact isNoneR_eq h2
theorem up_eq {nm kd : Str} {n lo z : Int} (hv : rowV nm kd n lo z ∈ rowsL) : runF 8 270 [.str (Txt.upper nm)] = .ok .none := by
  have h2 := List.all_eq_true.mp ups _ hv
  unfold upB at h2
  have e : nameOf (rowV nm kd n lo z) = nm := rfl
  rw [e] at h2
  exact isNoneR_eq h2
theorem seg3 (x0 x1 x2 x3 x4 x5 x6 x7 x8 x9 : Option AV) : segC CQ CL (13 + asksB.length) asksB [x0,x1,x2,x3,x4,x5,x6,x7,x8,x9,none] = some [x0,x1,x2,x3,x4,x5,x6,x7,x8,x9,some (.lst asksL)] := by kernel_rfl
theorem suf_pick {nm kd : Str} {n lo z : Int} {w : AV} (hv : rowV nm kd n lo z ∈ rowsL) (hw : w ∈ [AV.str "x",AV.str " ",AV.str "%",AV.str "_"]) : ∃ x,w = .str x ∧ x.length = 1 ∧ runF 8 270 [.str (nm ++ x)] = .ok .none := by
  simp only [List.mem_cons,List.not_mem_nil,or_false] at hw
  rcases hw with rfl | rfl | rfl | rfl
  · exact ⟨_,rfl,by kernel_rfl,suf_eq suf1 hv⟩
  · exact ⟨_,rfl,by kernel_rfl,suf_eq suf2 hv⟩
  · exact ⟨_,rfl,by kernel_rfl,suf_eq suf3 hv⟩
  · exact ⟨_,rfl,by kernel_rfl,suf_eq suf4 hv⟩
theorem names_wp (h : namesC args H Q X) : BodyL TQ TL lo_law_names_right ir_law_names_right args H Q X := by
  obtain ⟨i,a,b,rfl,hi,ha,hb,hbB,q⟩ := h
  refine ⟨rfl,?_⟩
  have hil : i < H.length := (List.getElem?_eq_some_iff.mp hi).1
  have gs : ∀ x,(H.set i x)[i]? = some x := fun x => by simp [hil]
  simp only [ir_law_names_right,mapC,mapN,lo_law_names_right,List.length_cons,List.length_nil,Nat.reduceAdd,Nat.reduceSub,List.replicate,List.cons_append,List.nil_append,↓wl2,↓stepS,↓sir1,↓opr,sek1,sek2,List.getElem?_cons_succ,List.getElem?_cons_zero,List.set_cons_succ,List.set_cons_zero,↓wl1,↓ser11,↓evr1,↓evr2,tl612,↓ser19,↓ser1,↓ser2,↓isr]
  refine ⟨by decide,i,_,a,b,rfl,hi,(fun h => nomatch h),by decide,ha,hb,by (exact Int.le_trans (by assumption) (by decide)),fun v hv a b ha hb hb1 => ?_⟩
  obtain ⟨s,rfl,hs⟩ : ∃ s : Int,v = .int s ∧ (s = 8 ∨ s = 16 ∨ s = 32 ∨ s = 64 ∨ s = 128) := by
    simp only [List.mem_cons,List.not_mem_nil,or_false] at hv
    rcases hv with rfl | rfl | rfl | rfl | rfl <;> exact ⟨_,rfl,by decide⟩
  simp only [seq_next]
  refine seg_ok simQ simL (b1 := [dueE]) (n := 24) (seg1 _ s hs _ _ _ _ _ _ _ _) ?_
  have il : itemsOf (.lst (regL s)) = some (regL s) := rfl
  simp only [↓wl2,stepS,↓sir4,↓wl1,↓ser5,↓ser20,↓ser11,↓evr2,↓ser2,List.getElem?_cons_succ,List.getElem?_cons_zero,↓evr1,tl303,mapN,view,↓isr,↓sir7,↓ser1,↓cmr8,eqo2]
  refine ⟨s,rfl,hs,?_⟩
  simp only [il,↓opr,↓isr]
  refine ⟨reg_len s hs,?_⟩
  refine comps_ok (evq_ok simQ 21).1 (told_due s hs) ?_
  refine ne_lst (due_due s hs) ?_
  simp only [seq_next]
  simp only [↓wl2,stepS,↓sir2,↓wl1,↓ser18,↓evr2,↓ser11,↓ser2,List.getElem?_cons_zero,↓ser1,↓evr1,tl605,↓ser5,view,List.length_cons,List.length_nil,Nat.reduceAdd,rv2,sea2,List.set_cons_succ,List.set_cons_zero,sea1,↓opr]
  refine ⟨i,16,a,b,rfl,gs _,by decide,by decide,ha,hb,by lia,fun d a' b' d0 d1 ha hb hb2 => ?_⟩
  refine ⟨i,2,a',b',rfl,?_,by decide,by decide,ha,hb,by lia,fun e a b e0 e1 ha hb hb3 => ?_⟩
  · rw [List.set_set]; exact gs _
  simp only [List.set_set,List.set_set]
  simp only [↓cmr2,↓opr,↓cmi1,↓isr]
  refine ⟨by decide,?_⟩
  simp only [seq_next]
  obtain ⟨hs2,hA⟩ := seg2 (some (.mu i)) (some (.lst rowsL)) (some (.int s)) (some (.lst (dueL s))) none none none none none d e d0 d1 e0 e1
  refine seg_ok simQ simL (b1 := nameB) (n := 18) hs2 ?_
  simp only [↓wl2,↓stepS,stepI,↓opr,↓isr]
  rw [wl1]
  simp only [stepE,↓opr,↓isr]
  refine or_f (evl_ok simQ simL 16).1 hA ?_
  simp only [↓orr1,↓wl1,↓ser5,↓ser11,↓evr2,↓ser2,List.getElem?_cons_zero,List.getElem?_cons_succ,↓evr1,tl612,tl270,↓ser1,view,↓isr,↓cmr1,↓iso2]
  refine ⟨i,_,a,b,rfl,gs _,(fun h => nomatch h),by decide,ha,hb,by lia,fun v hv a b ha hb hb4 => ?_⟩
  simp only [List.set_set]
  refine ev_eq (isNoneR_eq (List.all_eq_true.mp strange_ok v hv)) ?_
  simp only [isNone_n,notT,↓brF,↓opr,↓isr]
  simp only [seq_next]
  simp only [↓wl2,↓stepS,↓sir1,↓opr,sek1,sek2,List.getElem?_cons_succ,List.getElem?_cons_zero,List.set_cons_succ,List.set_cons_zero,↓wl1,↓ser11,↓evr1,↓evr2,tl612,↓ser2,↓isr]
  have hr84 : rowsL.length = 84 := by kernel_rfl
  refine ⟨i,_,a,b,rfl,gs _,(fun h => by rw [h] at hr84; cases hr84),by decide,ha,hb,by lia,fun v hv a b ha hb hb5 => ?_⟩
  rw [List.set_set]
  refine byC fun no9 => ?_
  obtain ⟨nm,kd,n,lo,z,R⟩ := row_is hv
  refine no9 ?_
  clear no9
  cases R.eq
  simp only [seq_next]
  have hn10 : nm.length ≤ 10 := of_decide_eq_true (List.all_eq_true.mp lens _ hv)
  have hup := up_eq hv
  simp only [↓wl2,stepS,↓sir4,↓wl1,↓ser9,↓orr2,↓ser5,↓ser11,↓evr2,↓ser14,↓ser16,↓ser2,List.getElem?_cons_succ,List.getElem?_cons_zero,↓ser1,↓vid2,List.length_cons,List.length_nil,Nat.reduceAdd,Int.toNat_zero,gdZ,↓smo6,↓evr1,tl270,view,↓isr,↓sir7,↓orr1,↓ser4,↓ser19,tl612,↓cmr1,↓iso2,↓smr3,true_and]
  refine ⟨⟨by decide,of_decide_eq_true rfl,of_decide_eq_true rfl⟩,by (exact Nat.le_trans (by assumption) (by decide)),ev_eq hup ?_⟩
  simp only [isNone_n,notT,↓brF,↓opr,↓isr]
  refine ⟨⟨of_decide_eq_true rfl,of_decide_eq_true rfl,of_decide_eq_true rfl⟩,by decide,i,_,a,b,rfl,gs _,(fun h => nomatch h),by decide,ha,hb,by lia,fun w hw a b ha hb hb6 => ?_⟩
  rw [List.set_set]
  have hss : sizeLine = 16777216 := sizeLine_eq
  obtain ⟨x,rfl,hx1,hx2⟩ := suf_pick hv hw
  refine ⟨by lia,ev_eq hx2 ?_⟩
  simp only [isNone_n,notT,↓brF,↓opr,↓isr]
  simp only [seq_next]
  refine seg_ok simQ simL (b1 := asksB) (n := 13) (seg3 _ _ _ _ _ _ _ _ _ _) ?_
  simp only [↓wl2,↓stepS,↓sir7,↓wl1,↓ser8,↓anr1,↓anr2,↓isr,↓ser11,↓evr1,↓evr2,tl638,↓ser21,↓opr,mapC,List.getElem?_cons_succ,List.getElem?_cons_zero,mapN,tl612,↓ser2]
  refine ⟨i,_,a,b,rfl,gs _,(fun h => nomatch h),by decide,ha,hb,by lia,fun v hv2 a b ha hb hb7 => ?_⟩
  simp only [List.set_set]
  refine ref_eq (trueR_eq (List.all_eq_true.mp asks_ok v hv2)) ?_
  refine brB_t (ref_eq (trueR_eq (List.all_eq_true.mp segs _ hv)) ?_)
  exact q a b ha hb (by lia)
end
section
variable {Tq T : Nat → Option Con} {H : MH}
theorem comp_near {k : Nat} (q624 : T 624 = some homeC) {one : AV} {h1 : one ∈ rowsL} {Q : List AV → MH → Prop} : ∀ {vs acc : List AV},(∀ v ∈ vs,v ∈ rowsL) → (∀ ys,(∀ y ∈ ys,y ∈ vs) → (one ∈ vs → one ∈ ys) → ys.length ≤ vs.length → Q (acc ++ ys) H) →
    comps (wpq T (k + 8)).1 (.loc 0) (some (.cmp (.call 624 [.loc 0]) .Eq (.call 624 [.loc 1]))) [some one] vs acc H Q
  | [],acc,hv,q => by
    have q := q [] (fun y h => h) (fun h => h) (Nat.le_refl _)
    rw [List.append_nil] at q
    exact q
  | v :: r,acc,hv,q => by
    refine byC fun no9 => ?_
    obtain ⟨nm,kd,n,lo,z,R⟩ := row_is (hv v (.head _))
    obtain ⟨nm',kd',n',lo',z',R'⟩ := row_is h1
    refine no9 ?_
    clear no9
    have key : ∀ (Q1 : AV → MH → Prop) X1,Q1 (.bool (decide (homeV kd n = homeV kd' n'))) H → (wpq T (k + 8)).1 (.cmp (.call 624 [.loc 0]) .Eq (.call 624 [.loc 1])) [some v,some one] H Q1 X1 := by
      intro Q1 X1 q1
      simp only [↓wq1,↓ser5,↓ser11,↓evr2,↓ser2,List.getElem?_cons_zero,↓evr1,q624,List.getElem?_cons_succ,view]
      exact ⟨v,nm,kd,n,lo,z,rfl,R,one,nm',kd',n',lo',z',rfl,R',q1⟩
    have key2 : ∀ (Q1 : AV → MH → Prop) X1,Q1 v H → (wpq T (k + 8)).1 (.loc 0) [some v,some one] H Q1 X1 := fun Q1 X1 q1 => q1
    have hr : ∀ v ∈ r,v ∈ rowsL := fun v h => hv v (.tail _ h)
    refine key _ _ (brB_of (fun e => key2 _ _ (comp_near q624 (h1 := h1) hr fun ys a b c => ?_)) fun e => comp_near q624 (h1 := h1) hr fun ys a b c => ?_)
    · rw [List.append_assoc]
      refine q (v :: ys) (fun y hy => ?_) (fun h => ?_) (by simp only [List.length_cons,↓opr,↓isr]; lia)
      · rcases List.mem_cons.mp hy with rfl | hy
        · exact .head _
        · exact .tail _ (a y hy)
      · rcases List.mem_cons.mp h with rfl | h
        · exact .head _
        · exact .tail _ (b h)
    · refine q ys (fun y hy => .tail _ (a y hy)) (fun h => ?_) (by simp only [List.length_cons,↓opr,↓isr]; lia)
      rcases List.mem_cons.mp h with rfl | h
      · refine absurd ?_ (of_decide_eq_false e)
        cases R.eq.symm.trans R'.eq
        rfl
      · exact b h
theorem law_wp {nums : List Int} (hl : nums.length ≤ 63) (q624 : Tq 624 = some homeC) (t598 : T 598 = some penC) (t617 : T 617 = some tabC) (t612 : T 612 = some pickC) (t605 : T 605 = some drawC) (t643 : T 643 = some rowC) (t660 : T 660 = some putsC) (t648 : T 648 = some namesC) (t667 : T 667 = some numbersC) (t672 : T 672 = some figrC) :
    (wps Tq T 26).2 ir_law (some (.ext (nums.map .int)) :: List.replicate 6 none) [] (fun fl _ _ => fl = .ret (.bool true)) (fun _ _ => False) := by
  simp only [↓wl2,stepS,ir_law,↓sir2,↓wl1,↓ser18,↓evr2,↓ser11,↓ser2,List.replicate,List.getElem?_cons_zero,↓evr1,t598,t617,↓ser12,↓ser17,↓eor1,↓eor2,↓ser1,view,mapC,mapN,List.length_cons,List.length_nil,Nat.reduceAdd,rv3,sea2,List.set_cons_succ,List.set_cons_zero,sea1,↓opr,↓slr2,↓bfr10,Int.toNat_one]
  refine ⟨nums,rfl,hl,fun a ha => ?_⟩
  refine ⟨rfl,fun l => ?_⟩
  simp only [List.length_nil,List.nil_append,List.cons_append,↓opr,↓isr]
  refine ⟨⟨by decide,by decide,by simp; (exact Nat.le_trans (by assumption) (by decide))⟩,nums.take 1,by rw [List.map_take],by rw [List.length_take]; lia,by decide,?_⟩
  have gen : ∀ H : MH,H[0]? = some [.int a,.int 0] → (wps Tq T 25).2 (ir_law.drop 1) [some (.ext (nums.map .int)),some (.mu 0),some (.lst rowsL),some (.int (nums.take 1).sum),none,none,none] H (fun fl _ _ => fl = .ret (.bool true)) (fun _ _ => False) := by
    intro H hi
    have gs : ∀ {H : MH} {x y : List AV},H[0]? = some x → (H.set 0 y)[0]? = some y := fun {H x y} h => by
      have := (List.getElem?_eq_some_iff.mp h).1
      simp [this]
    have hr84 : rowsL.length = 84 := by kernel_rfl
    have hne : rowsL ≠ [] := fun h => by rw [h] at hr84; cases hr84
    have il : itemsOf (.lst rowsL) = some rowsL := rfl
    simp only [ir_law,List.drop,↓wl2,↓stepS,↓sir1,↓opr,sek1,sek2,List.getElem?_cons_succ,List.getElem?_cons_zero,List.set_cons_succ,List.set_cons_zero,↓wl1,↓ser11,↓evr1,↓evr2,t612,↓ser2,↓isr]
    refine ⟨0,_,a,0,rfl,hi,hne,by decide,ha,by decide,by decide,fun one h1 a b ha hb hb1 => ?_⟩
    have hi := gs (y := [.int a,.int b]) hi
    generalize H.set 0 [.int a,.int b] = H at *
    simp only [seq_next]
    have gen2 : ∀ (H : MH) (other : AV) (x5 : Option AV) (a b : Int),other ∈ rowsL → H[0]? = some [.int a,.int b] → 0 ≤ a → 0 ≤ b → b ≤ 1000 → (wps Tq T 22).2 (ir_law.drop 4) [some (.ext (nums.map .int)),some (.mu 0),some (.lst rowsL),some (.int (nums.take 1).sum),some one,x5,some other] H (fun fl _ _ => fl = .ret (.bool true)) (fun _ _ => False) := by
      intro H other x5 a b h2 hi ha hb hb1
      refine byC fun no9 => ?_
      obtain ⟨nm,kd,n,lo,z,R⟩ := row_is h1
      obtain ⟨nm',kd',n',lo',z',R'⟩ := row_is h2
      refine no9 ?_
      clear no9
      simp only [ir_law,List.drop,↓wl2,↓stepS,↓sir4,↓isr,↓sir7,↓wl1,↓ser1,↓ser9,↓orr1,↓orr2,↓ser7,↓ser11,↓evr1,↓evr2,t660,↓ser2,List.getElem?_cons_succ,List.getElem?_cons_zero,t643,↓opr]
      refine ⟨one,rfl,h1,?_⟩
      simp only [notT,↓brF,↓opr,↓isr]
      refine ⟨other,rfl,h2,?_⟩
      simp only [notT,↓brF,↓opr,↓isr]
      refine ⟨0,a,b,one,other,nm,kd,n,lo,z,nm',kd',n',lo',z',_,rfl,hi,ha,hb,by (exact Int.le_trans (by assumption) (by decide)),R,R',fun a b' rest ha hb hb2 => ?_⟩
      have hi : (H.set 0 [.int a,.int b'] ++ rest)[0]? = some [.int a,.int b'] := by
        have := gs (y := [.int a,.int b']) hi
        rw [List.getElem?_append_left (List.getElem?_eq_some_iff.mp this).1]; exact this
      generalize H.set 0 [.int a,.int b'] ++ rest = H at *
      simp only [notT,↓brF,↓opr,↓isr]
      simp only [seq_next]
      simp only [↓wl2,↓stepS,↓sir7,↓wl1,↓ser8,↓anr1,↓anr2,↓isr,↓ser11,↓evr1,↓evr2,t672,↓ser2,List.getElem?_cons_succ,List.getElem?_cons_zero,t667,t648,↓opr]
      refine ⟨0,a,b',rfl,hi,ha,hb,by lia,fun a b ha hb hb3 => ?_⟩
      have hi := gs (y := [.int a,.int b]) hi
      generalize H.set 0 [.int a,.int b] = H at *
      refine brB_t ⟨0,a,b,_,rfl,hi,ha,hb,by lia,fun a b ha hb hb4 => ?_⟩
      have hi := gs (y := [.int a,.int b]) hi
      generalize H.set 0 [.int a,.int b] = H at *
      refine brB_t ⟨0,a,b,rfl,hi,ha,hb,by lia,fun a b rest => ?_⟩
      rfl
    simp only [↓wl2,↓stepS,↓sir1,↓opr,sek1,sek2,List.set_cons_succ,List.set_cons_zero,↓wl1,↓ser20,mapC,List.getElem?_cons_succ,List.getElem?_cons_zero,mapN,↓ser2,il,↓isr]
    refine ⟨by decide,comp_near (k := 14) q624 (one := one) (h1 := h1) (fun v h => h) fun ys hy ho hyl => ?_⟩
    simp only [List.nil_append,↓opr,↓isr]
    simp only [seq_next]
    have hys : ys ≠ [] := fun h => by have := ho h1; rw [h] at this; cases this
    simp only [↓wl2,stepS,↓sir1,↓wl1,↓ser10,↓ser5,↓ser11,↓evr2,↓ser2,List.getElem?_cons_succ,List.getElem?_cons_zero,↓ser1,↓evr1,t605,view,↓isr,t612,sek1,List.set_cons_succ,List.set_cons_zero,↓opr]
    refine ⟨0,3,a,b,rfl,hi,by decide,by decide,ha,hb,by (exact Int.le_trans (by assumption) (by decide)),fun d a b d0 d1 ha hb hb2 => ?_⟩
    have hi := gs (y := [.int a,.int b]) hi
    generalize H.set 0 [.int a,.int b] = H at *
    refine brB_of (fun _ => ?_) fun _ => ?_
    · refine ⟨0,ys,a,b,rfl,hi,hys,by (exact Nat.le_trans (by assumption) (by decide)),ha,hb,by lia,fun v hv a b ha hb hb3 => ?_⟩
      rw [seq_next]
      exact gen2 _ v _ a b (hy v hv) (gs hi) ha hb (by lia)
    · refine ⟨0,rowsL,a,b,rfl,hi,hne,by decide,ha,hb,by omega,fun v hv a b ha hb hb3 => ?_⟩
      rw [seq_next]
      exact gen2 _ v _ a b hv (gs hi) ha hb (by omega)
  exact gen _ rfl
end
noncomputable def tabT (l : List (Nat × Con)) : Nat → Option Con := fun g => (l.find? fun q => q.1 == g).map (·.2)
section
variable {ql : Bool} {prog : Program} {w : World} {K : Frag} {p : Program} {loose : List Str} {mean : ExcName → Option Value} {mg mb : Str → Option Value} {D : Nat}
theorem SoundL.loud {f : Nat} {C : Con} (h : SoundL prog w K p loose mean mg mb true f D C) : SoundL prog w K p loose mean mg mb ql f D C :=
  fun c args H Q X m Y wd s vs Qr Er O q S r h1 h2 hK hX => h c args H Q X m Y wd s vs Qr Er O q S r h1 h2 (fun v H' wd' s' V q' st => hK v H' wd' s' V q' st.weak) (fun cl H' wd' s' e x st => hX cl H' wd' s' e x st.weak)
theorem tOk_list {l : List (Nat × Con)} (h : ∀ q ∈ l,q.1 < 1000 ∧ Sound prog w K p loose mean mg mb ql q.1 D q.2) : TOk prog w K p loose mean mg mb ql D (tabT l) := by
  have key : ∀ g C,tabT l g = some C → (g,C) ∈ l := fun g C e => by
    unfold tabT at e
    obtain ⟨q,h1,h2⟩ := Option.map_eq_some_iff.mp e
    have h3 := List.find?_some h1
    have h4 := List.mem_of_find?_eq_some h1
    obtain ⟨a,b⟩ := q
    cases h2
    cases beq_iff_eq.mp h3
    exact h4
  refine ⟨fun g C hg hC => (h _ (key g C hC)).2,fun j C hC => ?_⟩
  have := (h _ (key _ C hC)).1
  have : 1000 + j < 1000 := this
  lia
theorem PK.quiet (PKh : PK prog w K p loose mean mg mb) (hD : 1 ≤ D) {T : Nat → Option Con} (hT : TOk prog w K p loose mean mg mb true D T) {lo : Lo} {f : Nat} {ib : List IS} {C : Con} (hm : (f,lo,ib) ∈ firs) (h : ∀ args H Q X,C args H Q X → Body T lo ib args H Q X) : Sound prog w K p loose mean mg mb true f (D + 1) C :=
  PKh.sound hm (wpq_sound PKh.ko PKh.kx hD hT 26).2.2.2 h
theorem PK.loud (PKh : PK prog w K p loose mean mg mb) (hD : 1 ≤ D) {Tq T : Nat → Option Con} (hTq : TOk prog w K p loose mean mg mb true D Tq) (hT : TOk prog w K p loose mean mg mb false D T) {lo : Lo} {f : Nat} {ib : List IS} {C : Con} (hm : (f,lo,ib) ∈ firs) (h : ∀ args H Q X,C args H Q X → BodyL Tq T lo ib args H Q X) : Sound prog w K p loose mean mg mb false f (D + 1) C :=
  PKh.sound hm (wps_sound PKh.ko PKh.kx hD hTq hT 26).2.2.2 h
theorem TOk.mono {D' : Nat} {T : Nat → Option Con} (h : TOk prog w K p loose mean mg mb ql D T) (hd : D ≤ D') : TOk prog w K p loose mean mg mb ql D' T :=
  ⟨fun g C hg hC => Sound.mono (h.1 g C hg hC) hd fun _ _ _ _ q => q,fun j C hC => SoundL.mono (h.2 j C hC) hd fun _ _ _ _ q => q⟩
theorem TOk.loud {T : Nat → Option Con} (h : TOk prog w K p loose mean mg mb true D T) : TOk prog w K p loose mean mg mb ql D T :=
  ⟨fun g C hg hC => Sound.loud (h.1 g C hg hC),fun j C hC => SoundL.loud (h.2 j C hC)⟩
theorem Sound.orC {f : Nat} {C C1 C2 : Con} (h1 : Sound prog w K p loose mean mg mb ql f D C1) (h2 : Sound prog w K p loose mean mg mb ql f D C2) (h : ∀ args H Q X,C args H Q X → C1 args H Q X ∨ C2 args H Q X) : Sound prog w K p loose mean mg mb ql f D C :=
  fun c args H Q X m Y wd s vs Qr Er O q S r a b hK hX => (h args H Q X q).elim (fun q => h1 c args H Q X m Y wd s vs Qr Er O q S r a b hK hX) fun q => h2 c args H Q X m Y wd s vs Qr Er O q S r a b hK hX
variable (PKh : PK prog w K p loose mean mg mb)
include PKh
theorem s92 : Sound prog w K p loose mean mg mb true 92 13 maskC := PKh.quiet (by decide) (evT_ok PKh 8) (List.mem_of_getElem? (show firs[0]? = some (92,lo_mask,ir_mask) from rfl)) fun _ _ _ _ h => mask_wp h
theorem s605 : Sound prog w K p loose mean mg mb true 605 13 drawC := PKh.quiet (by decide) (evT_ok PKh 8) (List.mem_of_getElem? (show firs[32]? = some (605,lo_law_draw,ir_law_draw) from rfl)) fun _ _ _ _ h => draw_wp h
theorem s134 : Sound prog w K p loose mean mg mb true 134 13 figC := PKh.quiet (by decide) (evT_ok PKh 8) (List.mem_of_getElem? (show firs[6]? = some (134,lo_figures_of,ir_figures_of) from rfl)) fun _ _ _ _ h => fig_wp h
theorem s120 : Sound prog w K p loose mean mg mb true 120 13 bitC := PKh.quiet (by decide) (evT_ok PKh 8) (List.mem_of_getElem? (show firs[4]? = some (120,lo_bit,ir_bit) from rfl)) fun _ _ _ _ h => bit_wp h
theorem s617 : Sound prog w K p loose mean mg mb true 617 13 tabC := PKh.quiet (by decide) (evT_ok PKh 8) (List.mem_of_getElem? (show firs[34]? = some (617,lo_law_table,ir_law_table) from rfl)) fun _ _ _ _ h => tab_wp h
theorem s631 : Sound prog w K p loose mean mg mb true 631 13 meetC := PKh.quiet (by decide) (evT_ok PKh 8) (List.mem_of_getElem? (show firs[36]? = some (631,lo_law_meet,ir_law_meet) from rfl)) fun _ _ _ _ h => meet_wp rfl h
theorem s298 : Sound prog w K p loose mean mg mb true 298 13 ovC := PKh.quiet (by decide) (evT_ok PKh 8) (List.mem_of_getElem? (show firs[26]? = some (298,lo_overlaps,ir_overlaps) from rfl)) fun _ _ _ _ h => ov_wp rfl h
theorem s144 : Sound prog w K p loose mean mg mb true 144 13 octsC := PKh.quiet (by decide) (evT_ok PKh 8) (List.mem_of_getElem? (show firs[8]? = some (144,lo_octets_of,ir_octets_of) from rfl)) fun _ _ _ _ h => octs_wp h
theorem s598 : Sound prog w K p loose mean mg mb true 598 13 penC := PKh.quiet (by decide) (evT_ok PKh 8) (List.mem_of_getElem? (show firs[31]? = some (598,lo_law_pen,ir_law_pen) from rfl)) fun _ _ _ _ h => pen_wp h
theorem s303a : Sound prog w K p loose mean mg mb true 303 13 allC := PKh.quiet (by decide) (evT_ok PKh 8) (List.mem_of_getElem? (show firs[27]? = some (303,lo_all_registers,ir_all_registers) from rfl)) fun _ _ _ _ h => all_wp rfl rfl h
theorem s303b : Sound prog w K p loose mean mg mb true 303 13 allC2 := PKh.quiet (by decide) (evT_ok PKh 8) (List.mem_of_getElem? (show firs[27]? = some (303,lo_all_registers,ir_all_registers) from rfl)) fun _ _ _ _ h => all_wp2 rfl h
theorem s270 : Sound prog w K p loose mean mg mb true 270 13 findC := Sound.mono ((evT_ok PKh 8).1 270 _ (by decide) rfl) (by decide) fun args H Q X h => by
  obtain ⟨v,nm,kd,n,lo,z,rfl,R,q⟩ := h
  exact ev_eq R.find q
theorem s624 : Sound prog w K p loose mean mg mb true 624 13 homeC := Sound.mono ((evT_ok PKh 8).1 624 _ (by decide) rfl) (by decide) fun args H Q X h => by
  obtain ⟨v,nm,kd,n,lo,z,rfl,R,q⟩ := h
  exact ev_eq R.home q
theorem s587 : Sound prog w K p loose mean mg mb true 587 13 stCon := Sound.mono (PKh.st true) (by decide) fun _ _ _ _ h => h
theorem s303 : Sound prog w K p loose mean mg mb true 303 13 regsC := Sound.orC (s303a PKh).freeze (s303b PKh) fun args H Q X h => by
  obtain ⟨s,rfl,hs,q⟩ := h
  by_cases e : s = 128
  · subst e; exact .inr ⟨rfl,q⟩
  · refine .inl ⟨s,rfl,by lia,H.length,regL s,rfl,Nat.le_refl _,getH,?_⟩
    rw [List.take_append_of_le_length (Nat.le_refl _),List.take_length]
    exact q
end
noncomputable def l1 : List (Nat × Con) := [(92,maskC),(605,drawC),(134,figC),(120,bitC),(617,tabC),(631,meetC),(298,ovC),(144,octsC),(598,penC),(270,findC),(624,homeC),(587,stCon)]
noncomputable def l2 : List (Nat × Con) := l1 ++ [(99,wrapC),(612,pickC),(127,topC),(139,octtC),(655,stateC)]
noncomputable def l3 : List (Nat × Con) := l2 ++ [(106,signedC),(481,joinedC),(502,getC)]
noncomputable def l4 : List (Nat × Con) := l3 ++ [(113,extC),(509,putC)]
noncomputable def l5 : List (Nat × Con) := l4 ++ [(667,numbersC),(660,putsC)]
noncomputable def l6 : List (Nat × Con) := l5 ++ [(643,rowC),(648,namesC),(672,figrC)]
section
variable {ql : Bool} {prog : Program} {w : World} {K : Frag} {p : Program} {loose : List Str} {mean : ExcName → Option Value} {mg mb : Str → Option Value} {D : Nat}
noncomputable def LOk (prog : Program) (w : World) (K : Frag) (p : Program) (loose : List Str) (mean : ExcName → Option Value) (mg mb : Str → Option Value) (ql : Bool) (D : Nat) (l : List (Nat × Con)) : Prop := ∀ q ∈ l,q.1 < 1000 ∧ Sound prog w K p loose mean mg mb ql q.1 D q.2
theorem LOk.nil : LOk prog w K p loose mean mg mb ql D [] := fun q h => (List.not_mem_nil h).elim
theorem LOk.cons {g : Nat} {C : Con} {l : List (Nat × Con)} (hg : g < 1000) (h : Sound prog w K p loose mean mg mb ql g D C) (hl : LOk prog w K p loose mean mg mb ql D l) : LOk prog w K p loose mean mg mb ql D ((g,C) :: l) := fun q hq => by
  rcases List.mem_cons.mp hq with rfl | hq
  · exact ⟨hg,h⟩
  · exact hl q hq
theorem LOk.app {l l' : List (Nat × Con)} {D' : Nat} (h : LOk prog w K p loose mean mg mb ql D l) (hd : D ≤ D') (h' : LOk prog w K p loose mean mg mb ql D' l') : LOk prog w K p loose mean mg mb ql D' (l ++ l') := fun q hq => by
  rcases List.mem_append.mp hq with hq | hq
  · exact ⟨(h q hq).1,Sound.mono (h q hq).2 hd fun _ _ _ _ q => q⟩
  · exact h' q hq
theorem LOk.loud {l : List (Nat × Con)} (h : LOk prog w K p loose mean mg mb true D l) : LOk prog w K p loose mean mg mb ql D l := fun q hq => ⟨(h q hq).1,Sound.loud (h q hq).2⟩
variable (PKh : PK prog w K p loose mean mg mb)
include PKh
theorem l1_ok : LOk prog w K p loose mean mg mb true 13 l1 := (.cons (by decide) (s92 PKh) (.cons (by decide) (s605 PKh) (.cons (by decide) (s134 PKh) (.cons (by decide) (s120 PKh) (.cons (by decide) (s617 PKh) (.cons (by decide) (s631 PKh) (.cons (by decide) (s298 PKh) (.cons (by decide) (s144 PKh) (.cons (by decide) (s598 PKh) (.cons (by decide) (s270 PKh) (.cons (by decide) (s624 PKh) (.cons (by decide) (s587 PKh) .nil))))))))))))
theorem s99 : Sound prog w K p loose mean mg mb true 99 14 wrapC := PKh.quiet (by decide) (tOk_list (l1_ok PKh)) (List.mem_of_getElem? (show firs[1]? = some (99,lo_wrap,ir_wrap) from rfl)) fun _ _ _ _ h => wrap_wp rfl h
theorem s612 : Sound prog w K p loose mean mg mb true 612 14 pickC := PKh.quiet (by decide) (tOk_list (l1_ok PKh)) (List.mem_of_getElem? (show firs[33]? = some (612,lo_law_pick,ir_law_pick) from rfl)) fun _ _ _ _ h => pick_wp rfl h
theorem s127 : Sound prog w K p loose mean mg mb true 127 14 topC := PKh.quiet (by decide) (tOk_list (l1_ok PKh)) (List.mem_of_getElem? (show firs[5]? = some (127,lo_top_bit,ir_top_bit) from rfl)) fun _ _ _ _ h => top_wp rfl h
theorem s139 : Sound prog w K p loose mean mg mb true 139 14 octtC := PKh.quiet (by decide) (tOk_list (l1_ok PKh)) (List.mem_of_getElem? (show firs[7]? = some (139,lo_octets_text,ir_octets_text) from rfl)) fun _ _ _ _ h => octt_wp rfl h
theorem s655 : Sound prog w K p loose mean mg mb true 655 14 stateC := PKh.quiet (by decide) (tOk_list (l1_ok PKh)) (List.mem_of_getElem? (show firs[40]? = some (655,lo_law_state,ir_law_state) from rfl)) fun _ _ _ _ h => state_wp rfl rfl h
theorem l2_ok : LOk prog w K p loose mean mg mb true 14 l2 := (l1_ok PKh).app (by decide) (.cons (by decide) (s99 PKh) (.cons (by decide) (s612 PKh) (.cons (by decide) (s127 PKh) (.cons (by decide) (s139 PKh) (.cons (by decide) (s655 PKh) .nil)))))
theorem s106 : Sound prog w K p loose mean mg mb true 106 15 signedC := PKh.quiet (by decide) (tOk_list (l2_ok PKh)) (List.mem_of_getElem? (show firs[2]? = some (106,lo_signed,ir_signed) from rfl)) fun _ _ _ _ h => signed_wp rfl h
theorem s481 : Sound prog w K p loose mean mg mb true 481 15 joinedC := PKh.quiet (by decide) (tOk_list (l2_ok PKh)) (List.mem_of_getElem? (show firs[28]? = some (481,lo_joined,ir_joined) from rfl)) fun _ _ _ _ h => joined_wp rfl h
theorem s502 : Sound prog w K p loose mean mg mb true 502 15 getC := PKh.quiet (by decide) (tOk_list (l2_ok PKh)) (List.mem_of_getElem? (show firs[29]? = some (502,lo_State_get,ir_State_get) from rfl)) fun _ _ _ _ h => get_wp rfl h
theorem l3_ok : LOk prog w K p loose mean mg mb true 15 l3 := (l2_ok PKh).app (by decide) (.cons (by decide) (s106 PKh) (.cons (by decide) (s481 PKh) (.cons (by decide) (s502 PKh) .nil)))
theorem s113 : Sound prog w K p loose mean mg mb true 113 16 extC := PKh.quiet (by decide) (tOk_list (l3_ok PKh)) (List.mem_of_getElem? (show firs[3]? = some (113,lo_extended,ir_extended) from rfl)) fun _ _ _ _ h => ext_wp rfl rfl h
theorem s509 : Sound prog w K p loose mean mg mb true 509 16 putC := PKh.quiet (by decide) (tOk_list (l3_ok PKh)) (List.mem_of_getElem? (show firs[30]? = some (509,lo_State_put,ir_State_put) from rfl)) fun _ _ _ _ h => put_wp rfl rfl h
theorem l4_ok : LOk prog w K p loose mean mg mb true 16 l4 := (l3_ok PKh).app (by decide) (.cons (by decide) (s113 PKh) (.cons (by decide) (s509 PKh) .nil))
theorem s667 : Sound prog w K p loose mean mg mb true 667 17 numbersC := PKh.quiet (by decide) (tOk_list (l4_ok PKh)) (List.mem_of_getElem? (show firs[42]? = some (667,lo_law_numbers_right,ir_law_numbers_right) from rfl)) fun _ _ _ _ h => numbers_wp rfl rfl rfl rfl rfl h
theorem s660 : Sound prog w K p loose mean mg mb true 660 17 putsC := PKh.quiet (by decide) (tOk_list (l4_ok PKh)) (List.mem_of_getElem? (show firs[41]? = some (660,lo_law_puts_right,ir_law_puts_right) from rfl)) fun _ _ _ _ h => puts_wp rfl rfl rfl rfl rfl rfl rfl rfl h
theorem l5_ok : LOk prog w K p loose mean mg mb true 17 l5 := (l4_ok PKh).app (by decide) (.cons (by decide) (s667 PKh) (.cons (by decide) (s660 PKh) .nil))
theorem s638 : Sound prog w K p loose mean mg mb false 638 13 refC := PKh.loud (by decide) (evT_ok PKh 8) (evT_ok PKh 8).loud (List.mem_of_getElem? (show firs[37]? = some (638,lo_law_is_refused,ir_law_is_refused) from rfl)) fun _ _ _ _ h => ref_wp h
theorem tq_ok : TOk prog w K p loose mean mg mb true 14 TQ := by
  refine ⟨fun g C hg hC => ?_,fun j C hC => ?_⟩
  · unfold TQ at hC
    split at hC
    · rename_i e; subst e; cases hC; exact Sound.mono (s605 PKh) (by decide) fun _ _ _ _ h => h
    · split at hC
      · rename_i e; subst e; cases hC; exact s612 PKh
      · cases hC; exact Sound.mono ((evT_ok PKh 8).1 g _ hg rfl) (by decide) fun _ _ _ _ h => h
  · unfold TQ at hC
    rw [if_neg (by lia),if_neg (by lia)] at hC
    cases hC
    exact SoundL.mono ((evT_ok PKh 8).2 j _ rfl) (by decide) fun _ _ _ _ h => h
theorem tl_ok : TOk prog w K p loose mean mg mb false 14 TL := by
  refine ⟨fun g C hg hC => ?_,fun j C hC => ?_⟩
  · unfold TL at hC
    split at hC
    · rename_i e; subst e; cases hC; exact Sound.mono (s605 PKh).loud (by decide) fun _ _ _ _ h => h
    · split at hC
      · rename_i e; subst e; cases hC; exact (s612 PKh).loud
      · split at hC
        · rename_i e; subst e; cases Option.some.inj hC; exact Sound.mono (s303 PKh).loud (by decide) fun _ _ _ _ h => h
        · split at hC
          · rename_i e; subst e; cases Option.some.inj hC; exact Sound.mono (s638 PKh) (by decide) fun _ _ _ _ h => h
          · cases Option.some.inj hC; exact Sound.mono ((evT_ok PKh 8).1 g _ hg rfl).loud (by decide) fun _ _ _ _ h => h
  · unfold TL at hC
    rw [if_neg (by omega),if_neg (by omega),if_neg (by lia),if_neg (by lia)] at hC
    cases Option.some.inj hC
    exact SoundL.mono (SoundL.loud ((evT_ok PKh 8).2 j _ rfl)) (by decide) fun _ _ _ _ h => h
theorem s643 : Sound prog w K p loose mean mg mb false 643 18 rowC := Sound.mono (PKh.loud (by decide) (tq_ok PKh) (tl_ok PKh) (List.mem_of_getElem? (show firs[38]? = some (643,lo_law_row_right,ir_law_row_right) from rfl)) fun _ _ _ _ h => row_wp h) (by decide) fun _ _ _ _ h => h
theorem s648 : Sound prog w K p loose mean mg mb false 648 18 namesC := Sound.mono (PKh.loud (by decide) (tq_ok PKh) (tl_ok PKh) (List.mem_of_getElem? (show firs[39]? = some (648,lo_law_names_right,ir_law_names_right) from rfl)) fun _ _ _ _ h => names_wp h) (by decide) fun _ _ _ _ h => h
theorem s672 : Sound prog w K p loose mean mg mb false 672 18 figrC := PKh.loud (by decide) (tOk_list (l5_ok PKh)) (tOk_list (l5_ok PKh).loud) (List.mem_of_getElem? (show firs[43]? = some (672,lo_law_figures_right,ir_law_figures_right) from rfl)) fun _ _ _ _ h => figr_wp rfl rfl rfl rfl rfl h
theorem l6_ok : LOk prog w K p loose mean mg mb false 18 l6 := (l5_ok PKh).loud.app (by decide) (.cons (by decide) (s643 PKh) (.cons (by decide) (s648 PKh) (.cons (by decide) (s672 PKh) .nil)))
theorem law_sound : SSound prog w K p loose mean mg mb false 18 (wps (tabT l5) (tabT l6) 26).2 := (wps_sound PKh.ko PKh.kx (by decide) ((tOk_list (l5_ok PKh)).mono (by decide)) (tOk_list (l6_ok PKh)) 26).2.2.2
end
theorem law_true {nums : List Int} (hl : nums.length ≤ 63) : (wps (tabT l5) (tabT l6) 26).2 ir_law (some (.ext (nums.map .int)) :: List.replicate 6 none) [] (fun fl _ _ => fl = .ret (.bool true)) (fun _ _ => False) :=
  law_wp hl rfl rfl rfl rfl rfl rfl rfl rfl rfl rfl
end Mine.Internal
set_option maxHeartbeats 8000000
namespace Mine
section
local macro_rules | `(tactic| o_head $_) => `(tactic| assumption)
theorem ka (h : PySem.Challenge.rw_nn0058_01.row.Holds) : PySem.Challenge.rw_nn0058_01.row.Holds := by k_head
end

end Mine
set_option maxHeartbeats 8000000
namespace Mine.Internal
variable {prog : Program} {w : World} {p : Program} {loose : List Str} {mean : ExcName → Option Value} {mg mb : Str → Option Value}
example : PySem.Challenge.rw_nn0058_01 = PySem.Challenge.rw_nn0058_01 ∧ ka.heap_1 = ka.heap_1 := by (k_fill; exact ⟨rfl,rfl⟩)
local macro_rules | `(tactic| k_room) => `(tactic| ktr_room)
local macro_rules | `(tactic| k_units) => `(tactic| ktr_units)
noncomputable def SpecN (prog : Program) (w : World) (p : Program) (loose : List Str) (mean : ExcName → Option Value) (mg mb : Str → Option Value) (f : Addr) (D U : Nat) (vs : List Value) (post : Value → Led → Prop) : Prop :=
  ∀ (dp un : Nat) (gd : Option (List Code)) (cn : Str) (cs : Scope) (a : Addr) (ccd : Value) (cl : List (Str × Addr)) (outer : List Env) (A₀ : Around) (base h₀ : Heap) (L : Addr) (m : Str → Option Value) (news : Led) (s : Shared)
    (Q E : Value → Shared → Prop),
    Below A₀ base outer h₀ → Fr h₀ L s.heap m → (ka.heap_1 w.params).In h₀ → News h₀ L s.heap news → Top p loose mean mg mb h₀ → cs.kind = .function → dp + D < recursionLimit → un + U < cLine →
    (∀ r led h' tk',Fr h₀ L h' m → News h₀ L h' (led ++ news) → (∀ q ∈ led,∀ z ∈ news,@LT.lt Nat _ z.1 q.1) → post r led → Q r { s with heap := h',toks := tk' }) →
    wpAny (model prog w) (ktrTop dp un gd cn cs L a ccd cl outer) (call (.ref f) vs) Q E s
theorem ne_of_lts {d : Addr} {l : Led} (h : ∀ q ∈ l,q.1 < d) : ∀ q ∈ l,q.1 ≠ d := fun q hq => Nat.ne_of_lt (h q hq)
theorem led_lt {d : Addr} {led news : Led} (l1 : ∀ q ∈ news,q.1 < d) (h : ∀ q ∈ led,d ≤ q.1) : ∀ q ∈ led,∀ z ∈ news,@LT.lt Nat _ z.1 q.1 := fun q hq z hz => Nat.lt_of_lt_of_le (l1 z hz) (h q hq)
theorem two_lt {x d : Addr} {o1 o2 : Obj} {led : Led} (l2 : @LT.lt Nat _ d x) (h : ∀ q ∈ led,@LT.lt Nat _ x q.1) : ∀ q ∈ (x,o1) :: (d,o2) :: led,d ≤ q.1 := fun q hq => by
  rcases List.mem_cons.mp hq with rfl | hq
  · exact Nat.le_of_lt l2
  rcases List.mem_cons.mp hq with rfl | hq
  · exact Nat.le_refl _
  · exact Nat.le_of_lt (Nat.lt_trans l2 (h q hq))
theorem ne_of_gts {d : Addr} {l : Led} (h : ∀ q ∈ l,@LT.lt Nat _ d q.1) : ∀ q ∈ l,q.1 ≠ d := fun q hq => Nat.ne_of_gt (h q hq)
theorem EntsR.len {P : Params} {fs : List Str} {es : List DictEntry} {us : List Value} (h : EntsR P fs es us) : es.length = fs.length := by
  induction h with
  | nil => rfl
  | cons _ ih => exact congrArg (· + 1) ih
theorem EntsR.put {P : Params} {f : Str} {t : Tok} {v : Value} {fs : List Str} {es : List DictEntry} {us : List Value} (h : EntsR P fs es us) : fs.contains f = false →
    EntsR P (fs ++ [f]) (putL f (PyData.keyHash P f) (.str f t) v es) (us ++ [v]) ∧ (getL f es).isSome = true := by
  induction h with
  | nil => exact fun _ => ⟨.cons .nil,rfl⟩
  | @cons x t' u xs es' us' h' ih =>
    intro hf
    rw [List.contains_cons,Bool.or_eq_false_iff] at hf
    have hx : (Value.str x t').isStr f = false := beq_eq_false_iff_ne.mpr fun e => beq_eq_false_iff_ne.mp hf.1 e.symm
    obtain ⟨i1,i2⟩ := ih hf.2
    constructor
    · have e : putL f (PyData.keyHash P f) (.str f t) v (⟨PyData.keyHash P x,.str x t',u⟩ :: es') = ⟨PyData.keyHash P x,.str x t',u⟩ :: putL f (PyData.keyHash P f) (.str f t) v es' := by
        show (if (Value.str x t').isStr f then _ else _) = _
        rw [hx]; rfl
      rw [e]
      exact .cons i1
    · have e2 : getL f (⟨PyData.keyHash P x,.str x t',u⟩ :: es') = getL f es' := by
        simp only [getL,List.find?_cons,hx,List.any_cons]
        rfl
      rw [e2]; exact i2
noncomputable def EvOk (prog : Program) (w : World) (A : Around) (env : Env) (E : Value → Shared → Prop) (h₀ : Heap) (L : Addr) (m : Str → Option Value) (ve : Expr) (Post : Value → Led → Prop) : Prop :=
  ∀ (s : Shared) (big : Led) (Q : Value → Shared → Prop),Fr h₀ L s.heap m → News h₀ L s.heap big →
    (∀ v led h' tk',Fr h₀ L h' m → News h₀ L h' (led ++ big) → (∀ q ∈ led,∀ z ∈ big,@LT.lt Nat _ z.1 q.1) → Post v led → Q v { s with heap := h',toks := tk' }) → wpAny (model prog w) A (eval ve env) Q E s
inductive Ini (prog : Program) (w : World) (K : Frag) (C x d : Addr) (A : Around) (env : Env) (E : Value → Shared → Prop) (h₀ : Heap) (L : Addr) (m : Str → Option Value) : Prop
  | mk (X : K.In h₀) (hx : ∀ p,EvOk prog w A env E h₀ L m (.Name "self" p) (fun v led => led = [] ∧ v = .ref x)) (hxd : @LT.lt Nat _ d x) (hs : findIn K (.ref C) "__setattr__" = some (some (.builtin "object.__setattr__"))) (hp : plainOver K C = true) (hh : hasDictIn K C = true) : Ini prog w K C x d A env E h₀ L m
theorem ini_step {K : Frag} {A : Around} {env : Env} {E : Value → Shared → Prop} {h₀ : Heap} {L : Addr} {m : Str → Option Value} {C x d : Addr} {es : List DictEntry} {n : Nat} {fs : List Str} {us : List Value} {news : Led} {s : Shared} {f : Str} {ve : Expr} {p1 p2 p3 : Pos} {rest : List Stmt} {Q : Flow → Shared → Prop} {Post : Value → Led → Prop}
    (I : Ini prog w K C x d A env E h₀ L m)
    (F : Fr h₀ L s.heap m) (N : News h₀ L s.heap ((x,instObj C d) :: (d,dictOf es n) :: news)) (hd : ∀ q ∈ news,q.1 ≠ d) (he : EntsR w.params fs es us)
    (ht : takerIn K C f = some none) (hf : fs.contains f = false) (hz : fs.length < 900) (sw : swapsWith ve (some (.Attribute (.Name "self" p1) f p2)) p3.line env = pure false)
    (ev : EvOk prog w A env E h₀ L m ve Post)
    (k : ∀ v led h' tk' es' n',Post v led → (∀ q ∈ led,@LT.lt Nat _ x q.1) → (∀ q ∈ led,∀ z ∈ news,@LT.lt Nat _ z.1 q.1) → Fr h₀ L h' m → News h₀ L h' ((x,instObj C d) :: (d,dictOf es' n') :: (led ++ news)) → (∀ q ∈ led ++ news,q.1 ≠ d) → EntsR w.params (fs ++ [f]) es' (us ++ [v]) →
      wpAny (model prog w) A (execs rest env) Q E { s with heap := h',toks := tk' }) :
    wpAny (model prog w) A (execs (.Assign [.Attribute (.Name "self" p1) f p2] ve p3 :: rest) env) Q E s := by
  obtain ⟨X,hx,hxd,hs,hp,hh⟩ := I
  refine wpAny_execs_cons (plainObj_wpAny_Assign_Attribute (ev s _ _ F N fun v led h' tk' F' N' fr po => hx p1 ⟨h',_,_,tk',_⟩ _ _ F' N' fun x' led' h2 tk2 F2 N2 _ po' => ?_) sw)
  obtain ⟨rfl,rfl⟩ := po'
  have N1 : News h₀ L h2 ((x,instObj C d) :: (d,dictOf es n) :: (led ++ news)) := fun q hq => N2 q (show q ∈ led ++ (_ :: _ :: news) by
    rcases List.mem_cons.mp hq with rfl | hq
    · exact List.mem_append_right _ (.head _)
    rcases List.mem_cons.mp hq with rfl | hq
    · exact List.mem_append_right _ (.tail _ (.head _))
    rcases List.mem_append.mp hq with hq | hq
    · exact List.mem_append_left _ hq
    · exact List.mem_append_right _ (.tail _ (.tail _ hq)))
  have hd' : ∀ q ∈ led ++ news,q.1 ≠ d := fun q hq => by
    rcases List.mem_append.mp hq with hq | hq
    · exact Nat.ne_of_gt (fr q hq _ (.tail _ (.head _)))
    · exact hd q hq
  obtain ⟨i1,i2⟩ := he.put (t := tk2 + 1) (v := v) hf
  refine set_dict (s := ⟨h2,_,_,tk2,_⟩) F2 X N1 (InstAt.of_news N1 (.head _) (.tail _ (.head _))) rfl hs hp ht hh i2 rfl (.tail (Nat.ne_of_gt hxd) (.head hd')) ?_ fun h3 F3 N3 => ?_
  · rw [i1.len,List.length_append]
    exact Nat.le_of_lt (Nat.lt_trans (Nat.succ_lt_succ hz) (by decide))
  · exact k v led h3 _ _ _ po (fun q hq => fr q hq _ (.head _)) (fun q hq z hz => fr q hq z (.tail _ (.tail _ hz))) F3 N3 hd' i1
section
variable {A : Around} {E : Value → Shared → Prop} {h₀ : Heap} {L a : Addr} {m : Str → Option Value} {cn : Str} {cs : Scope} {ccd : Value} {cl : List (Str × Addr)}
theorem ev_int {env : Env} {n : Int} {k : Nat} {pos : Pos} : EvOk prog w A env E h₀ L m (.Constant (.int n) k pos) (fun v led => led = [] ∧ ∃ t,v = .int n t) :=
  fun s _ _ F N kk => wpAny_Constant_int (kk (.int n s.toks) [] s.heap (s.toks + 1) F N (fun _ h => nomatch h) ⟨rfl,_,rfl⟩)
theorem ev_bool {env : Env} {b : Bool} {k : Nat} {pos : Pos} : EvOk prog w A env E h₀ L m (.Constant (.bool b) k pos) (fun v led => led = [] ∧ v = .bool b) :=
  fun s _ _ F N kk => wpAny_Constant_bool (kk (.bool b) [] s.heap s.toks F N (fun _ h => nomatch h) ⟨rfl,rfl⟩)
theorem ev_loc {y : Str} {v₀ : Value} {pos : Pos} (hy : m y = some v₀) (hk : cs.kind = .function) (hl : (envX cn cs L a ccd cl).kindOf y = some .local) (hd : (y == ("__debug__" : Str)) = false) : EvOk prog w A (envX cn cs L a ccd cl) E h₀ L m (.Name y pos) (fun v led => led = [] ∧ v = v₀) :=
  fun s _ _ F N kk => nameX_L F hy (kk v₀ [] s.heap s.toks F N (fun _ h => nomatch h) ⟨rfl,rfl⟩) hk hl hd
end
theorem cls_new {C fI : Addr} {D U : Nat} {vs : List Value} {post : Value → Led → Prop} {name qual : Str} {params : Arguments} {body : List Stmt} {scope : Scope} {dV kV doc pm cdv ct oc : Value} {an od : Option Addr} {osl : Array (Option Value)} {binds : Value → List (Str × Value)}
    (hm : makesIn (ka.heap_1 w.params) C = true) (hi : findIn (ka.heap_1 w.params) (.ref C) "__init__" = some (some (.ref fI))) (hf : isFn (ka.heap_1 w.params) (.ref fI) = true)
    (ho : (ka.heap_1 w.params).lookup fI = some ⟨oc,od,.func (fnOf name qual params body scope dV kV doc pm an cdv ct),osl⟩) (hcd : codeIn (ka.heap_1 w.params) cdv qual = true)
    (hbind : ∀ s x,BindsTo s (fnOf name qual params body scope dV kV doc pm an cdv ct) ⟨x :: vs,[]⟩ (binds x)) (hloc : ∀ x,∀ y ∈ binds x,scope.names.lookup y.1 = some .local)
    (hco : scope.isCoroutine = false) (hgen : scope.isGenerator = false) (hk : scope.kind = .function) (hcell : ∀ x ∈ scope.names,x.2 ≠ .cell)
    (hb : ∀ dp un gd outer A₀ base g L m news s Q E x d env,Below A₀ base outer g → env = envX qual scope L fI cdv [] → (∀ y v₀,(binds (.ref x)).reverse.lookup y = some v₀ → (envX qual scope L fI cdv []).kindOf y = some .local → (y == ("__debug__" : Str)) = false → ∀ A E p,EvOk prog w A env E g L m (.Name y p) (fun v led => led = [] ∧ v = v₀)) → Fr g L s.heap m → (ka.heap_1 w.params).In g → News g L s.heap ((x,instObj C d) :: (d,dictOf [] 0) :: news) → Top p loose mean mg mb g →
      (∀ q ∈ news,@LT.lt Nat _ q.1 d) → @LT.lt Nat _ d x → dp + D < recursionLimit → un + U < cLine →
      (∀ m' led h' tk',Fr g L h' m' → News g L h' (led ++ news) → (∀ q ∈ led,∀ z ∈ news,@LT.lt Nat _ z.1 q.1) → post (.ref x) led → Q .next { s with heap := h',toks := tk' }) →
      wpAny (model prog w) (ktrTop dp un gd qual scope L fI cdv [] outer) (execs body env) Q E s) :
    SpecN prog w p loose mean mg mb C (D + 2) (U + 8) vs post := by
  intro dp un gd cn cs a ccd cl outer A₀ base h₀ L m news s Q E B F X N T hkind hd hu hret
  refine call_cls F X N hm hi hf fun x d h' F' N' l1 l2 => ?_
  refine code_def B F' X N' T rfl rfl hkind ho hcd ?_ (hbind _ _) (hloc _) (fun g L' h1 FG F1 N1 B1 X1 T1 => ?_) hco hgen hk hcell
  · exact Nat.lt_of_le_of_lt (Nat.add_le_add_left (Nat.le_add_left _ _) _) hd
  refine hb _ _ _ _ _ base g L' _ news _ _ _ x d _ B1 rfl (fun y v₀ h1 h2 h3 A E p => ev_loc h1 hk h2 h3) F1 X1 N1 T1 l1 l2 ?_ ?_ fun m' led h2 tk2 F2 N2 fr po => ?_
  · exact (congrArg (· < recursionLimit) ((Nat.add_assoc dp 2 D).trans (congrArg (dp + ·) (Nat.add_comm 2 D)))).mpr hd
  · exact Nat.lt_of_le_of_lt (Nat.le_trans (Nat.le_of_eq ((Nat.add_assoc un 4 U).trans (congrArg (un + ·) (Nat.add_comm 4 U)))) (Nat.add_le_add_left (Nat.add_le_add_left (by decide : 4 ≤ 8) U) un)) hu
  · exact leaveK_ F2 N2 fun kF kN => ⟨rfl,hret _ led _ _ kF kN fr po⟩
theorem ini_none {K : Frag} {A : Around} {env : Env} {E : Value → Shared → Prop} {h₀ : Heap} {L : Addr} {m : Str → Option Value} {C x d : Addr} {es : List DictEntry} {n : Nat} {fs : List Str} {us : List Value} {news : Led} {s : Shared} {f : Str} {ve : Expr} {p1 p2 p3 : Pos} {rest : List Stmt} {Q : Flow → Shared → Prop} {P : Value → Prop}
    (I : Ini prog w K C x d A env E h₀ L m) (hd : ∀ q ∈ news,q.1 ≠ d) (ev : EvOk prog w A env E h₀ L m ve (fun v led => led = [] ∧ P v))
    (F : Fr h₀ L s.heap m) (N : News h₀ L s.heap ((x,instObj C d) :: (d,dictOf es n) :: news)) (he : EntsR w.params fs es us)
    (ht : takerIn K C f = some none) (hf : fs.contains f = false) (hz : fs.length < 900) (sw : swapsWith ve (some (.Attribute (.Name "self" p1) f p2)) p3.line env = pure false)
    (k : ∀ v h' tk' es' n',P v → Fr h₀ L h' m → News h₀ L h' ((x,instObj C d) :: (d,dictOf es' n') :: news) → EntsR w.params (fs ++ [f]) es' (us ++ [v]) → wpAny (model prog w) A (execs rest env) Q E { s with heap := h',toks := tk' }) :
    wpAny (model prog w) A (execs (.Assign [.Attribute (.Name "self" p1) f p2] ve p3 :: rest) env) Q E s := by
  refine ini_step I F N hd he ht hf hz sw ev fun v led h' tk' es' n' po _ _ F N _ e => ?_
  obtain ⟨rfl,po⟩ := po
  exact k v h' tk' es' n' po F N e
theorem zerosR {P : Params} {I : Led} {xs : List Addr} {t : Tok} : Rs P I xs zeros (List.replicate 16 (Value.int 0 t)) := by
  unfold zeros
  induction 16 with
  | zero => exact .nil
  | succ n ih => exact .int _ _ ih
section
variable {E : Value → Shared → Prop} {g : Heap} {L a : Addr} {m : Str → Option Value} {cn : Str} {cs : Scope} {ccd : Value} {cl : List (Str × Addr)} {dp un : Nat} {gd : Option (List Code)} {outer : List Env} {A₀ : Around} {base : Heap}
theorem ev_new {C D U : Nat} {X : Str} {p1 p2 : Pos} {post : Value → Led → Prop} (hC : SpecN prog w p loose mean mg mb C D U [] post) (hp : ∀ r led,post r led → led = [])
    (hx : nsIn (ka.heap_1 w.params) mainGlobals X = some (some (.ref C))) (hkp : keepIn (ka.heap_1 w.params) (.ref C) = true) (hk : cs.kind = .function) (hl : (envX cn cs L a ccd cl).kindOf X = some .globalImplicit) (hb : (X == ("__debug__" : Str)) = false)
    (B : Below A₀ base outer g) (K : (ka.heap_1 w.params).In g) (T : Top p loose mean mg mb g) (hd : dp + D < recursionLimit) (hu : un + U < cLine) :
    EvOk prog w (ktrTop dp un gd cn cs L a ccd cl outer) (envX cn cs L a ccd cl) E g L m (.Call (.Name X p1) [] [] p2) (fun _ led => led = [] ∧ True) := by
  intro s big Q F N k
  refine Call_ (nameX_K F K (by k_asm) hx (callWith_K0 (K.keeps F.keep) hkp (hC _ _ _ _ _ _ _ _ _ _ _ _ _ _ _ _ _ _ B F K N T hk hd hu fun r led h' tk' F' N' _ po => ?_)) hk hl hb)
  cases hp _ _ po
  exact k r [] h' tk' F' N' (fun _ h => nomatch h) ⟨rfl,trivial⟩
theorem ev_list {k1 k2 : Nat} {p1 p2 p3 p4 : Pos} : EvOk prog w (ktrTop dp un gd cn cs L a ccd cl outer) (envX cn cs L a ccd cl) E g L m (.BinOp (.List [.Constant (.int 0) k1 p1] p2) .Mult (.Constant (.int 16) k2 p3) p4) (fun v led => ∃ l vs c,v = .ref l ∧ led = [(l,lstO vs c)] ∧ ∀ P I xs,Rs P I xs zeros vs) := by
  intro s big Q F N k
  repeat (first | (k_unfold; (try dsimp only)) | walk1 | (dsimp only; walk1))
  rename Fr g L _ m => F1
  rename News g L _ _ => N1
  refine KMa.mul (vs := [.int 0 _]) (ws := List.replicate 16 (.int 0 _)) F1 N1 ⟨_,(N1 _ (.head _)).1,rfl,_,rfl⟩ (by decide) (by decide) (Nat.le_of_ble_eq_true rfl) rfl fun D h' F' N' lt => ?_
  exact k (.ref D) [(D,_)] h' _ F' (fun q hq => by
    rcases List.mem_cons.mp hq with rfl | hq
    · exact N' _ (.head _)
    · exact N' _ (.tail _ (.tail _ hq))) (fun q hq z hz => by rw [List.mem_singleton.mp hq]; exact lt z (.tail _ hz)) ⟨D,_,_,rfl,rfl,fun _ _ _ => zerosR⟩
theorem ev_dict0 {A : Around} {env : Env} {pos : Pos} (T : Top p loose mean mg mb g) : EvOk prog w A env E g L m (.Dict [] [] pos) (fun _ led => led = [] ∧ True) := by
  intro s big Q F N k
  exact newDict_K F N T.nolimit fun d h' o F' N' _ _ _ _ _ _ => k (.ref d) [] h' s.toks F' (fun q hq => N' q (.tail _ hq)) (fun _ h => nomatch h) ⟨rfl,trivial⟩
theorem ev_dict2 (K : (ka.heap_1 w.params).In g) (T : Top p loose mean mg mb g) : EvOk prog w (ktrTop dp un gd cn cs L a ccd cl outer) (envX cn cs L a ccd cl) E g L m (.Dict [some (.Constant (.str (Str.ofString "fs")) 0 { line := 303,col := 25,endLine := 303,endCol := 29 }),some (.Constant (.str (Str.ofString "gs")) 0 { line := 303,col := 34,endLine := 303,endCol := 38 })] [.Constant (.int 0) 0 { line := 303,col := 31,endLine := 303,endCol := 32 },.Constant (.int 0) 0 { line := 303,col := 40,endLine := 303,endCol := 41 }] { line := 303,col := 24,endLine := 303,endCol := 42 }) (fun _ led => led = [] ∧ True) := by
  intro s big Q F N k
  repeat (first | (k_unfold; (try dsimp only)) | walk1 | (dsimp only; walk1))
  rename Fr g L _ m => F1
  rename News g L _ _ => N1
  exact k (.ref _) [] _ _ F1 (fun q hq => N1 q (.tail _ hq)) (fun _ h => nomatch h) ⟨rfl,trivial⟩
end
theorem reg_new (nm kd : Str) (n z : Int) (t1 t2 t3 t4 : Tok) : SpecN prog w p loose mean mg mb 196 3 24 [.str nm t1,.str kd t2,.int n t3,.int z t4] (fun r led => ∃ x d es c,r = .ref x ∧ @LT.lt Nat _ d x ∧ led = [(x,instObj 196 d),(d,dictOf es c)] ∧ EntsR w.params (fieldsOf 196) es [.str nm t1,.str kd t2,.int n t3,.int z t4]) := by
  refine' cls_new (D := 1) (U := 16) (binds := fun x => [("self",x),("name",.str nm t1),("kind",.str kd t2),("number",.int n t3),("size",.int z t4)]) ?k1 ?k2 ?k3 ?k4 ?k5 ?k6 ?k7 ?k8 ?k9 ?k10 ?k11 ?_
  case k1 => k_is
  case k2 => k_is
  case k3 => k_is
  case k4 => k_is
  case k5 => k_is
  case k6 => exact fun _ _ => BindsTo.of_eq rfl
  case k7 => exact fun _ => locs rfl
  case k8 => rfl
  case k9 => rfl
  case k10 => rfl
  case k11 => decide
  intro dp un gd outer A₀ base g L m news s Q E x d env B he ev F X N T l1 l2 hd hu k
  generalize ktrTop dp un gd _ _ L _ _ [] outer = A
  have hs := ev "self" _ rfl rfl rfl A E
  have h1 := ev "name" _ rfl rfl rfl A E
  have h2 := ev "kind" _ rfl rfl rfl A E
  have h3 := ev "number" _ rfl rfl rfl A E
  have h4 := ev "size" _ rfl rfl rfl A E
  clear ev he
  have I : Ini prog w (ka.heap_1 w.params) 196 x d A env E g L m := ⟨X,hs,l2,by k_is,by k_is,by k_is⟩
  clear hs
  refine ini_none I (ne_of_lts l1) (h1 _) F N .nil (by k_is) rfl (by decide) rfl fun v h' tk es n po F N e => ?_
  subst po
  refine ini_none I (ne_of_lts l1) (h2 _) F N e (by k_is) rfl (by decide) rfl fun v h' tk es n po F N e => ?_
  subst po
  refine ini_none I (ne_of_lts l1) (h3 _) F N e (by k_is) rfl (by decide) rfl fun v h' tk es n po F N e => ?_
  subst po
  refine ini_none I (ne_of_lts l1) (h4 _) F N e (by k_is) rfl (by decide) rfl fun v h' tk es n po F N e => ?_
  subst po
  exact wpAny_execs_nil (k _ [_,_] _ _ F N (led_lt l1 (two_lt l2 fun _ h => nomatch h)) ⟨_,_,_,_,rfl,l2,rfl,e⟩)
noncomputable def StOk (P : Params) (es : List DictEntry) (l1 l2 : Addr) (v1 v2 : List Value) : Prop := (∃ a b c t t',EntsR P (fieldsOf 587) es [.none,.ref l1,.ref l2,a,b,.int 0 t,.int 0 t',c,.bool false]) ∧ (∀ I xs,Rs P I xs zeros v1) ∧ ∀ I xs,Rs P I xs zeros v2
theorem flags_new : SpecN prog w p loose mean mg mb 376 2 8 [] (fun _ led => led = []) := by
  refine' cls_new (D := 0) (U := 0) (binds := fun x => [("self",x)]) ?k1 ?k2 ?k3 ?k4 ?k5 ?k6 ?k7 ?k8 ?k9 ?k10 ?k11 ?_
  case k1 => k_is
  case k2 => k_is
  case k3 => k_is
  case k4 => k_is
  case k5 => k_is
  case k6 => exact fun _ _ => BindsTo.of_eq rfl
  case k7 => exact fun _ => locs rfl
  case k8 => rfl
  case k9 => rfl
  case k10 => rfl
  case k11 => decide
  intro dp un gd outer A₀ base g L m news s Q E x d env B he ev F X N T l1 l2 hd hu k
  generalize ktrTop dp un gd _ _ L _ _ [] outer = A
  have I : Ini prog w (ka.heap_1 w.params) 376 x d A env E g L m := ⟨X,ev "self" _ rfl rfl rfl A E,l2,by k_is,by k_is,by k_is⟩
  clear ev he
  refine ini_none I (ne_of_lts l1) ev_int F N .nil (by k_is) rfl (by decide) rfl fun v h' tk es n _ F N e => ?_
  iterate 6 refine ini_none I (ne_of_lts l1) ev_int F N e (by k_is) rfl (by decide) rfl fun v h' tk es n _ F N e => ?_
  exact wpAny_execs_nil (k _ [] _ _ F (fun q hq => N q (.tail _ (.tail _ hq))) (fun _ h => nomatch h) rfl)
theorem mem_new : SpecN prog w p loose mean mg mb 470 2 8 [] (fun _ led => led = []) := by
  refine' cls_new (D := 0) (U := 0) (binds := fun x => [("self",x)]) ?k1 ?k2 ?k3 ?k4 ?k5 ?k6 ?k7 ?k8 ?k9 ?k10 ?k11 ?_
  case k1 => k_is
  case k2 => k_is
  case k3 => k_is
  case k4 => k_is
  case k5 => k_is
  case k6 => exact fun _ _ => BindsTo.of_eq rfl
  case k7 => exact fun _ => locs rfl
  case k8 => rfl
  case k9 => rfl
  case k10 => rfl
  case k11 => decide
  intro dp un gd outer A₀ base g L m news s Q E x d env B he ev F X N T l1 l2 hd hu k
  generalize ktrTop dp un gd _ _ L _ _ [] outer = A
  have I : Ini prog w (ka.heap_1 w.params) 470 x d A env E g L m := ⟨X,ev "self" _ rfl rfl rfl A E,l2,by k_is,by k_is,by k_is⟩
  clear ev he
  refine ini_none I (ne_of_lts l1) (ev_dict0 T) F N .nil (by k_is) rfl (by decide) rfl fun v h' tk es n _ F N e => ?_
  exact wpAny_execs_nil (k _ [] _ _ F (fun q hq => N q (.tail _ (.tail _ hq))) (fun _ h => nomatch h) rfl)
theorem state_new : SpecN prog w p loose mean mg mb 587 6 48 [.none] (fun r led => ∃ x d l1 l2 es c v1 n1 v2 n2,r = .ref x ∧ led = [(x,instObj 587 d),(d,dictOf es c),(l2,lstO v2 n2),(l1,lstO v1 n1)] ∧ @LT.lt Nat _ d x ∧ @LT.lt Nat _ x l1 ∧ @LT.lt Nat _ l1 l2 ∧ StOk w.params es l1 l2 v1 v2) := by
  refine' cls_new (D := 4) (U := 40) (binds := fun x => [("self",x),("iset",.none)]) ?k1 ?k2 ?k3 ?k4 ?k5 ?k6 ?k7 ?k8 ?k9 ?k10 ?k11 ?_
  case k1 => k_is
  case k2 => k_is
  case k3 => k_is
  case k4 => k_is
  case k5 => k_is
  case k6 => exact fun _ _ => BindsTo.of_eq rfl
  case k7 => exact fun _ => locs rfl
  case k8 => rfl
  case k9 => rfl
  case k10 => rfl
  case k11 => decide
  intro dp un gd outer A₀ base g L m news s Q E x d env B he ev F X N T l1 l2 hd hu k
  generalize hA : ktrTop dp un gd _ _ L _ _ [] outer = A
  obtain ⟨eF,eM,eL,eD⟩ : (∀ p1 p2,EvOk prog w A env E g L m (.Call (.Name (Str.ofString "Flags") p1) [] [] p2) fun _ led => led = [] ∧ True) ∧ (∀ p1 p2,EvOk prog w A env E g L m (.Call (.Name (Str.ofString "Memory") p1) [] [] p2) fun _ led => led = [] ∧ True) ∧
      (∀ p1 p2 p3 p4,EvOk prog w A env E g L m (.BinOp (.List [.Constant (.int 0) 0 p1] p2) .Mult (.Constant (.int 16) 0 p3) p4) fun v led => ∃ l vs c,v = .ref l ∧ led = [(l,lstO vs c)] ∧ ∀ P I xs,Rs P I xs zeros vs) ∧ EvOk prog w A env E g L m (.Dict [some (.Constant (.str (Str.ofString "fs")) 0 { line := 303,col := 25,endLine := 303,endCol := 29 }),some (.Constant (.str (Str.ofString "gs")) 0 { line := 303,col := 34,endLine := 303,endCol := 38 })] [.Constant (.int 0) 0 { line := 303,col := 31,endLine := 303,endCol := 32 },.Constant (.int 0) 0 { line := 303,col := 40,endLine := 303,endCol := 41 }] { line := 303,col := 24,endLine := 303,endCol := 42 }) fun _ led => led = [] ∧ True := by
    cases he
    cases hA
    have h1 : dp + 2 < recursionLimit := Nat.lt_of_le_of_lt (Nat.add_le_add_left (by decide) _) hd
    have h2 : un + 8 < cLine := Nat.lt_of_le_of_lt (Nat.add_le_add_left (by decide) _) hu
    exact ⟨fun _ _ => ev_new flags_new (fun _ _ h => h) (by k_is) (by k_is) rfl rfl rfl B X T h1 h2,fun _ _ => ev_new mem_new (fun _ _ h => h) (by k_is) (by k_is) rfl rfl rfl B X T h1 h2,fun _ _ _ _ => ev_list,ev_dict2 X T⟩
  have I : Ini prog w (ka.heap_1 w.params) 587 x d A env E g L m := ⟨X,ev "self" _ rfl rfl rfl A E,l2,by k_is,by k_is,by k_is⟩
  have ei := ev "iset" _ rfl rfl rfl A E
  clear ev he hA B T hd hu
  refine ini_none I (ne_of_lts l1) (ei _) F N .nil (by k_is) rfl (by decide) rfl fun v h' tk es n po F N e => ?_
  cases po
  refine ini_step I F N (ne_of_lts l1) e (by k_is) rfl (by decide) rfl (eL _ _ _ _) ?_
  intro v led h' tk es n po lx _ F N h1 e
  obtain ⟨a1,v1,c1,rfl,rfl,z1⟩ := po
  refine ini_step I F N h1 e (by k_is) rfl (by decide) rfl (eL _ _ _ _) ?_
  intro v led h' tk es n po _ lz F N h2 e
  obtain ⟨a2,v2,c2,rfl,rfl,z2⟩ := po
  refine ini_none I h2 (eF _ _) F N e (by k_is) rfl (by decide) rfl fun v h' tk es n _ F N e => ?_
  refine ini_none I h2 (eM _ _) F N e (by k_is) rfl (by decide) rfl fun v h' tk es n _ F N e => ?_
  refine ini_none I h2 ev_int F N e (by k_is) rfl (by decide) rfl fun v h' tk es n p1 F N e => ?_
  refine ini_none I h2 ev_int F N e (by k_is) rfl (by decide) rfl fun v h' tk es n p2 F N e => ?_
  refine ini_none I h2 eD F N e (by k_is) rfl (by decide) rfl fun v h' tk es n _ F N e => ?_
  refine ini_none I h2 ev_bool F N e (by k_is) rfl (by decide) rfl fun v h' tk es n p3 F N e => ?_
  cases p3
  obtain ⟨_,rfl⟩ := p1
  obtain ⟨_,rfl⟩ := p2
  have la := lx _ (.head _)
  have lb := lz _ (.head _) _ (.head _)
  refine wpAny_execs_nil (k _ [_,_,_,_] _ _ F N (led_lt l1 (two_lt l2 ?_)) ⟨_,_,_,_,_,_,_,_,_,_,rfl,rfl,l2,la,lb,⟨_,_,_,_,_,e⟩,z1 _,z2 _⟩)
  intro q hq
  rcases List.mem_cons.mp hq with rfl | hq
  · exact Nat.lt_trans la lb
  · rw [List.mem_singleton.mp hq]; exact la
end Mine.Internal
set_option maxHeartbeats 8000000
namespace Mine.Internal
variable {prog : Program} {w : World} {p : Program} {loose : List Str} {mean : ExcName → Option Value} {mg mb : Str → Option Value}
variable {ql : Bool}
theorem Step.ofE {ql : Bool} {c : FrameCx} {w w' : Wd} {s : Shared} {h : Heap} {tk : Nat} (E : Ext w w') (hg : w'.g = w.g) : Step ql c w s w' { s with heap := h,toks := tk } := ⟨.mk,hg ▸ .refl,E,fun _ => hg⟩
theorem reg_sound : Sound prog w (ka.heap_1 w.params) p loose mean mg mb ql 196 3 regCon := by
  intro c args H Q X m Y wd s vs Qr Er O hC S r h1 h2 hK hX
  obtain ⟨nm,kd,n,z,rfl,q⟩ := hC
  obtain ⟨V1,R1,rfl,r1,r⟩ := r.uncons
  obtain ⟨V2,R2,rfl,r2,r⟩ := r.uncons
  obtain ⟨V3,R3,rfl,r3,r⟩ := r.uncons
  obtain ⟨V4,R4,rfl,r4,r⟩ := r.uncons
  cases Rs.nil0 r
  obtain ⟨t1,rfl⟩ := r1.s
  obtain ⟨t2,rfl⟩ := r2.s
  obtain ⟨t3,rfl⟩ := r3.i
  obtain ⟨t4,rfl⟩ := r4.i
  refine reg_new nm kd n z t1 t2 t3 t4 c.dp c.un c.gd c.cn c.cs c.a c.ccd c.cl c.outer c.A₀ c.base wd.g c.L m (wd.all Y) s _ _ S.below S.fr (S.kin O.kin) S.nw (O.top.keeps S.below.stays) O.fn (by omega) (by lia) fun r led h' tk' F' N' lt post => ?_
  obtain ⟨x,d,es,cc,rfl,hdx,rfl,he⟩ := post
  have ld := ne_of_lts (lt (d,_) (.tail _ (.head _)))
  obtain ⟨S1,E1⟩ := S.newI F' (fun q hq => N' q (.tail _ hq)) ld
  obtain ⟨S2,E2⟩ := S1.newI F' N' (List.forall_mem_cons.mpr ⟨Nat.ne_of_lt hdx,ne_of_lts (lt (x,_) (.head _))⟩)
  exact hK _ _ _ { s with heap := h',toks := tk' } _ q (Step.ofE (E1.trans E2) rfl) S2 (.inst (.head _) (.tail _ (.head _)) he (.str _ _ (.str _ _ (.int _ _ (.int _ _ .nil)))) .nil)
theorem ne_cons {e : Addr × Obj} {l : Led} {d : Addr} (h : e.1 ≠ d) (hl : ∀ q ∈ l,q.1 ≠ d) : ∀ q ∈ e :: l,q.1 ≠ d := List.forall_mem_cons.mpr ⟨h,hl⟩
theorem mem_allM {w : Wd} {Y : Led} {e : Addr × Obj} (q : Addr × Obj) (h : q ∈ ({ w with Mo := w.Mo ++ [e] } : Wd).all Y) : q ∈ e :: w.all Y := by
  rcases List.mem_append.mp h with h | h
  · exact .tail _ (List.mem_append_left _ h)
  rcases List.mem_append.mp h with h | h
  · rcases List.mem_append.mp h with h | h
    · exact .tail _ (List.mem_append_right _ (List.mem_append_left _ h))
    · rw [List.mem_singleton.mp h]; exact .head _
  · exact .tail _ (List.mem_append_right _ (List.mem_append_right _ h))
theorem mem_up {e : Addr × Obj} {l l' : Led} (h : ∀ q ∈ l,q ∈ l') (q : Addr × Obj) (hq : q ∈ e :: l) : q ∈ e :: l' := by
  rcases List.mem_cons.mp hq with rfl | hq
  · exact .head _
  · exact .tail _ (h q hq)
theorem state_sound : Sound prog w (ka.heap_1 w.params) p loose mean mg mb ql 587 6 stCon := by
  intro c args H Q X m Y wd s vs Qr Er O hC S r h1 h2 hK hX
  obtain ⟨rfl,q⟩ := hC
  obtain ⟨V1,R1,rfl,r1,r⟩ := r.uncons
  cases Rs.nil0 r
  cases r1.n
  refine state_new c.dp c.un c.gd c.cn c.cs c.a c.ccd c.cl c.outer c.A₀ c.base wd.g c.L m (wd.all Y) s _ _ S.below S.fr (S.kin O.kin) S.nw (O.top.keeps S.below.stays) O.fn (by omega) (by lia) fun r led h' tk' F' N' lt post => ?_
  obtain ⟨x,d,l1,l2,es,cc,v1,n1,v2,n2,rfl,rfl,ldx,lxl,l12,⟨va,vb,vc,u,u',he⟩,z1,z2⟩ := post
  have k1 := ne_of_lts (lt (l1,_) (.tail _ (.tail _ (.tail _ (.head _)))))
  have k2 := ne_of_lts (lt (l2,_) (.tail _ (.tail _ (.head _))))
  have k3 := ne_of_lts (lt (d,_) (.tail _ (.head _)))
  have k4 := ne_of_lts (lt (x,_) (.head _))
  obtain ⟨S1,E1⟩ := S.newM (a := l1) (vs := v1) (n := n1) F' (fun q hq => N' q (.tail _ (.tail _ (.tail _ hq)))) k1 (z1 _ _)
  obtain ⟨S2,E2⟩ := S1.newM (a := l2) (vs := v2) (n := n2) F' (fun q hq => N' q (.tail _ (.tail _ (mem_up mem_allM q hq)))) (fun q hq => ne_cons (Nat.ne_of_lt l12) k2 q (mem_allM q hq)) (z2 _ _)
  have u2 := fun q hq => mem_up mem_allM q (mem_allM (w := { wd with Mo := wd.Mo ++ [(l1,lstO v1 n1)] }) (Y := Y) (e := (l2,lstO v2 n2)) q hq)
  have ldl := Nat.lt_trans ldx lxl
  obtain ⟨S3,E3⟩ := S2.newI (a := d) (o := dictOf es cc) F' (fun q hq => N' q (.tail _ (mem_up u2 q hq))) (fun q hq => ne_cons (Nat.ne_of_gt (Nat.lt_trans ldl l12)) (ne_cons (Nat.ne_of_gt ldl) k3) q (u2 q hq))
  obtain ⟨S4,E4⟩ := S3.newI (a := x) (o := instObj 587 d) F' (fun q hq => N' q (mem_up (mem_up u2) q hq)) (fun q hq => ne_cons (Nat.ne_of_lt ldx) (ne_cons (Nat.ne_of_gt (Nat.lt_trans lxl l12)) (ne_cons (Nat.ne_of_gt lxl) k4)) q (mem_up u2 q hq))
  have q2 := q va vb vc
  have eH : H ++ [zeros] ++ [zeros] = H ++ [zeros,zeros] := by simp
  rw [eH] at S4
  refine hK _ _ _ { s with heap := h',toks := tk' } _ q2 (Step.ofE (E1.trans (E2.trans (E3.trans E4))) rfl) S4 ?_
  have hlen : wd.Mo.length = H.length := S.mr.length
  refine .inst (.head _) (.tail _ (.head _)) he ?_ .nil
  refine .none (.mu ?_ (.mu ?_ (.val _ (.val _ (.int _ _ (.int _ _ (.val _ (.bool _ .nil))))))))
  · show ((wd.Mo ++ [(l1,lstO v1 n1)] ++ [(l2,lstO v2 n2)]).map (·.1))[H.length]? = some l1
    rw [List.map_append,List.map_append,List.append_assoc,List.getElem?_append_right (by simp [hlen])]
    simp [hlen]
  · show ((wd.Mo ++ [(l1,lstO v1 n1)] ++ [(l2,lstO v2 n2)]).map (·.1))[H.length + 1]? = some l2
    rw [List.map_append,List.map_append,List.append_assoc,List.getElem?_append_right (by simp [hlen])]
    simp [hlen]
theorem len0 {P : List Value → Prop} (h : P []) : ∀ vs : List Value,vs.length = 0 → P vs := fun vs e => List.length_eq_zero_iff.mp e ▸ h
theorem len1 {P : List Value → Prop} (h : ∀ a,P [a]) : ∀ vs : List Value,vs.length = 1 → P vs := fun vs e => by obtain ⟨a,e⟩ := List.length_eq_one_iff.mp e; exact e ▸ h a
theorem lenS {P : List Value → Prop} {n : Nat} (h : ∀ a,∀ vs : List Value,vs.length = n → P (a :: vs)) : ∀ vs : List Value,vs.length = n + 1 → P vs
  | [],e => nomatch e
  | a :: l,e => h a l (Nat.succ.inj e)
theorem len2 {P : List Value → Prop} (h : ∀ a b,P [a,b]) : ∀ vs : List Value,vs.length = 2 → P vs := lenS fun a => len1 (h a)
theorem len3 {P : List Value → Prop} (h : ∀ a b c,P [a,b,c]) : ∀ vs : List Value,vs.length = 3 → P vs := lenS fun a => len2 (h a)
theorem len4 {P : List Value → Prop} (h : ∀ a b c d,P [a,b,c,d]) : ∀ vs : List Value,vs.length = 4 → P vs := lenS fun a => len3 (h a)
theorem ok_mask (P : Params) : DefOkE (ka.heap_1 P) lo_mask 92 30 ir_mask := by
  apply defOkE_of
  case ho => with_unfolding_all exact rfl
  case hc => kernel_rfl
  case hb => exact len1 fun _ => by kernel_rfl
  case hnd => decide
  case hcn => decide +kernel
theorem ok_wrap (P : Params) : DefOkE (ka.heap_1 P) lo_wrap 99 30 ir_wrap := by
  apply defOkE_of
  case ho => with_unfolding_all exact rfl
  case hc => kernel_rfl
  case hb => exact len2 fun _ _ => by kernel_rfl
  case hnd => decide
  case hcn => decide +kernel
theorem ok_signed (P : Params) : DefOkE (ka.heap_1 P) lo_signed 106 30 ir_signed := by
  apply defOkE_of
  case ho => with_unfolding_all exact rfl
  case hc => kernel_rfl
  case hb => exact len2 fun _ _ => by kernel_rfl
  case hnd => decide
  case hcn => decide +kernel
theorem ok_extended (P : Params) : DefOkE (ka.heap_1 P) lo_extended 113 30 ir_extended := by
  apply defOkE_of
  case ho => with_unfolding_all exact rfl
  case hc => kernel_rfl
  case hb => exact len3 fun _ _ _ => by kernel_rfl
  case hnd => decide
  case hcn => decide +kernel
theorem ok_bit (P : Params) : DefOkE (ka.heap_1 P) lo_bit 120 30 ir_bit := by
  apply defOkE_of
  case ho => with_unfolding_all exact rfl
  case hc => kernel_rfl
  case hb => exact len2 fun _ _ => by kernel_rfl
  case hnd => decide
  case hcn => decide +kernel
theorem ok_top_bit (P : Params) : DefOkE (ka.heap_1 P) lo_top_bit 127 30 ir_top_bit := by
  apply defOkE_of
  case ho => with_unfolding_all exact rfl
  case hc => kernel_rfl
  case hb => exact len2 fun _ _ => by kernel_rfl
  case hnd => decide
  case hcn => decide +kernel
theorem ok_figures_of (P : Params) : DefOkE (ka.heap_1 P) lo_figures_of 134 30 ir_figures_of := by
  apply defOkE_of
  case ho => with_unfolding_all exact rfl
  case hc => kernel_rfl
  case hb => exact len2 fun _ _ => by kernel_rfl
  case hnd => decide
  case hcn => decide +kernel
theorem ok_octets_text (P : Params) : DefOkE (ka.heap_1 P) lo_octets_text 139 30 ir_octets_text := by
  apply defOkE_of
  case ho => with_unfolding_all exact rfl
  case hc => kernel_rfl
  case hb => exact len1 fun _ => by kernel_rfl
  case hnd => decide
  case hcn => decide +kernel
theorem ok_octets_of (P : Params) : DefOkE (ka.heap_1 P) lo_octets_of 144 30 ir_octets_of := by
  apply defOkE_of
  case ho => with_unfolding_all exact rfl
  case hc => kernel_rfl
  case hb => exact len1 fun _ => by kernel_rfl
  case hnd => decide
  case hcn => decide +kernel
theorem ok_Register_code (P : Params) : DefOkE (ka.heap_1 P) lo_Register_code 165 30 ir_Register_code := by
  apply defOkE_of
  case ho => with_unfolding_all exact rfl
  case hc => kernel_rfl
  case hb => exact len1 fun _ => by kernel_rfl
  case hnd => decide
  case hcn => decide +kernel
theorem ok_Register_is_extended (P : Params) : DefOkE (ka.heap_1 P) lo_Register_is_extended 172 30 ir_Register_is_extended := by
  apply defOkE_of
  case ho => with_unfolding_all exact rfl
  case hc => kernel_rfl
  case hb => exact len1 fun _ => by kernel_rfl
  case hnd => decide
  case hcn => decide +kernel
theorem ok_Register_is_high (P : Params) : DefOkE (ka.heap_1 P) lo_Register_is_high 179 30 ir_Register_is_high := by
  apply defOkE_of
  case ho => with_unfolding_all exact rfl
  case hc => kernel_rfl
  case hb => exact len1 fun _ => by kernel_rfl
  case hnd => decide
  case hcn => decide +kernel
theorem ok_Register_needs_rex (P : Params) : DefOkE (ka.heap_1 P) lo_Register_needs_rex 186 30 ir_Register_needs_rex := by
  apply defOkE_of
  case ho => with_unfolding_all exact rfl
  case hc => kernel_rfl
  case hb => exact len1 fun _ => by kernel_rfl
  case hnd => decide
  case hcn => decide +kernel
theorem ok_Register_told (P : Params) : DefOkE (ka.heap_1 P) lo_Register_told 193 30 ir_Register_told := by
  apply defOkE_of
  case ho => with_unfolding_all exact rfl
  case hc => kernel_rfl
  case hb => exact len1 fun _ => by kernel_rfl
  case hnd => decide
  case hcn => decide +kernel
theorem ok_early_names (P : Params) : DefOkE (ka.heap_1 P) lo_early_names 207 30 ir_early_names := by
  apply defOkE_of
  case ho => with_unfolding_all exact rfl
  case hc => kernel_rfl
  case hb => exact len1 fun _ => by kernel_rfl
  case hnd => decide
  case hcn => decide +kernel
theorem ok_late_ending (P : Params) : DefOkE (ka.heap_1 P) lo_late_ending 214 30 ir_late_ending := by
  apply defOkE_of
  case ho => with_unfolding_all exact rfl
  case hc => kernel_rfl
  case hb => exact len1 fun _ => by kernel_rfl
  case hnd => decide
  case hcn => decide +kernel
theorem ok_gpr (P : Params) : DefOkE (ka.heap_1 P) lo_gpr 221 30 ir_gpr := by
  apply defOkE_of
  case ho => with_unfolding_all exact rfl
  case hc => kernel_rfl
  case hb => exact len2 fun _ _ => by kernel_rfl
  case hnd => decide
  case hcn => decide +kernel
theorem ok_high (P : Params) : DefOkE (ka.heap_1 P) lo_high 228 30 ir_high := by
  apply defOkE_of
  case ho => with_unfolding_all exact rfl
  case hc => kernel_rfl
  case hb => exact len1 fun _ => by kernel_rfl
  case hnd => decide
  case hcn => decide +kernel
theorem ok_octet_register (P : Params) : DefOkE (ka.heap_1 P) lo_octet_register 235 30 ir_octet_register := by
  apply defOkE_of
  case ho => with_unfolding_all exact rfl
  case hc => kernel_rfl
  case hb => exact len2 fun _ _ => by kernel_rfl
  case hnd => decide
  case hcn => decide +kernel
theorem ok_xmm (P : Params) : DefOkE (ka.heap_1 P) lo_xmm 242 30 ir_xmm := by
  apply defOkE_of
  case ho => with_unfolding_all exact rfl
  case hc => kernel_rfl
  case hb => exact len1 fun _ => by kernel_rfl
  case hnd => decide
  case hcn => decide +kernel
theorem ok_segment (P : Params) : DefOkE (ka.heap_1 P) lo_segment 256 30 ir_segment := by
  apply defOkE_of
  case ho => with_unfolding_all exact rfl
  case hc => kernel_rfl
  case hb => exact len1 fun _ => by kernel_rfl
  case hnd => decide
  case hcn => decide +kernel
theorem ok_late_register (P : Params) : DefOkE (ka.heap_1 P) lo_late_register 263 30 ir_late_register := by
  apply defOkE_of
  case ho => with_unfolding_all exact rfl
  case hc => kernel_rfl
  case hb => exact len1 fun _ => by kernel_rfl
  case hnd => decide
  case hcn => decide +kernel
theorem ok_find_register (P : Params) : DefOkE (ka.heap_1 P) lo_find_register 270 30 ir_find_register := by
  apply defOkE_of
  case ho => with_unfolding_all exact rfl
  case hc => kernel_rfl
  case hb => exact len1 fun _ => by kernel_rfl
  case hnd => decide
  case hcn => decide +kernel
theorem ok_same_register (P : Params) : DefOkE (ka.heap_1 P) lo_same_register 277 30 ir_same_register := by
  apply defOkE_of
  case ho => with_unfolding_all exact rfl
  case hc => kernel_rfl
  case hb => exact len2 fun _ _ => by kernel_rfl
  case hnd => decide
  case hcn => decide +kernel
theorem ok_whole (P : Params) : DefOkE (ka.heap_1 P) lo_whole 284 30 ir_whole := by
  apply defOkE_of
  case ho => with_unfolding_all exact rfl
  case hc => kernel_rfl
  case hb => exact len1 fun _ => by kernel_rfl
  case hnd => decide
  case hcn => decide +kernel
theorem ok_part (P : Params) : DefOkE (ka.heap_1 P) lo_part 291 30 ir_part := by
  apply defOkE_of
  case ho => with_unfolding_all exact rfl
  case hc => kernel_rfl
  case hb => exact len2 fun _ _ => by kernel_rfl
  case hnd => decide
  case hcn => decide +kernel
theorem ok_overlaps (P : Params) : DefOkE (ka.heap_1 P) lo_overlaps 298 30 ir_overlaps := by
  apply defOkE_of
  case ho => with_unfolding_all exact rfl
  case hc => kernel_rfl
  case hb => exact len2 fun _ _ => by kernel_rfl
  case hnd => decide
  case hcn => decide +kernel
theorem ok_all_registers (P : Params) : DefOkE (ka.heap_1 P) lo_all_registers 303 30 ir_all_registers := by
  apply defOkE_of
  case ho => with_unfolding_all exact rfl
  case hc => kernel_rfl
  case hb => exact len1 fun _ => by kernel_rfl
  case hnd => decide
  case hcn => decide +kernel
theorem ok_joined (P : Params) : DefOkE (ka.heap_1 P) lo_joined 481 30 ir_joined := by
  apply defOkE_of
  case ho => with_unfolding_all exact rfl
  case hc => kernel_rfl
  case hb => exact len3 fun _ _ _ => by kernel_rfl
  case hnd => decide
  case hcn => decide +kernel
theorem ok_State_get (P : Params) : DefOkE (ka.heap_1 P) lo_State_get 502 30 ir_State_get := by
  apply defOkE_of
  case ho => with_unfolding_all exact rfl
  case hc => kernel_rfl
  case hb => exact len2 fun _ _ => by kernel_rfl
  case hnd => decide
  case hcn => decide +kernel
theorem ok_State_put (P : Params) : DefOkE (ka.heap_1 P) lo_State_put 509 30 ir_State_put := by
  apply defOkE_of
  case ho => with_unfolding_all exact rfl
  case hc => kernel_rfl
  case hb => exact len3 fun _ _ _ => by kernel_rfl
  case hnd => decide
  case hcn => decide +kernel
theorem ok_law_pen (P : Params) : DefOkE (ka.heap_1 P) lo_law_pen 598 30 ir_law_pen := by
  apply defOkE_of
  case ho => with_unfolding_all exact rfl
  case hc => kernel_rfl
  case hb => exact len1 fun _ => by kernel_rfl
  case hnd => decide
  case hcn => decide +kernel
theorem ok_law_draw (P : Params) : DefOkE (ka.heap_1 P) lo_law_draw 605 30 ir_law_draw := by
  apply defOkE_of
  case ho => with_unfolding_all exact rfl
  case hc => kernel_rfl
  case hb => exact len2 fun _ _ => by kernel_rfl
  case hnd => decide
  case hcn => decide +kernel
theorem ok_law_pick (P : Params) : DefOkE (ka.heap_1 P) lo_law_pick 612 30 ir_law_pick := by
  apply defOkE_of
  case ho => with_unfolding_all exact rfl
  case hc => kernel_rfl
  case hb => exact len2 fun _ _ => by kernel_rfl
  case hnd => decide
  case hcn => decide +kernel
theorem ok_law_table (P : Params) : DefOkE (ka.heap_1 P) lo_law_table 617 30 ir_law_table := by
  apply defOkE_of
  case ho => with_unfolding_all exact rfl
  case hc => kernel_rfl
  case hb => exact len0 (by kernel_rfl)
  case hnd => decide
  case hcn => decide +kernel
theorem ok_law_home (P : Params) : DefOkE (ka.heap_1 P) lo_law_home 624 30 ir_law_home := by
  apply defOkE_of
  case ho => with_unfolding_all exact rfl
  case hc => kernel_rfl
  case hb => exact len1 fun _ => by kernel_rfl
  case hnd => decide
  case hcn => decide +kernel
theorem ok_law_meet (P : Params) : DefOkE (ka.heap_1 P) lo_law_meet 631 30 ir_law_meet := by
  apply defOkE_of
  case ho => with_unfolding_all exact rfl
  case hc => kernel_rfl
  case hb => exact len2 fun _ _ => by kernel_rfl
  case hnd => decide
  case hcn => decide +kernel
theorem ok_law_is_refused (P : Params) : DefOkE (ka.heap_1 P) lo_law_is_refused 638 30 ir_law_is_refused := by
  apply defOkE_of
  case ho => with_unfolding_all exact rfl
  case hc => kernel_rfl
  case hb => exact len1 fun _ => by kernel_rfl
  case hnd => decide
  case hcn => decide +kernel
theorem ok_law_row_right (P : Params) : DefOkE (ka.heap_1 P) lo_law_row_right 643 30 ir_law_row_right := by
  apply defOkE_of
  case ho => with_unfolding_all exact rfl
  case hc => kernel_rfl
  case hb => exact len1 fun _ => by kernel_rfl
  case hnd => decide
  case hcn => decide +kernel
theorem ok_law_names_right (P : Params) : DefOkE (ka.heap_1 P) lo_law_names_right 648 30 ir_law_names_right := by
  apply defOkE_of
  case ho => with_unfolding_all exact rfl
  case hc => kernel_rfl
  case hb => exact len2 fun _ _ => by kernel_rfl
  case hnd => decide
  case hcn => decide +kernel
theorem ok_law_state (P : Params) : DefOkE (ka.heap_1 P) lo_law_state 655 30 ir_law_state := by
  apply defOkE_of
  case ho => with_unfolding_all exact rfl
  case hc => kernel_rfl
  case hb => exact len1 fun _ => by kernel_rfl
  case hnd => decide
  case hcn => decide +kernel
theorem ok_law_puts_right (P : Params) : DefOkE (ka.heap_1 P) lo_law_puts_right 660 30 ir_law_puts_right := by
  apply defOkE_of
  case ho => with_unfolding_all exact rfl
  case hc => kernel_rfl
  case hb => exact len4 fun _ _ _ _ => by kernel_rfl
  case hnd => decide
  case hcn => decide +kernel
theorem ok_law_numbers_right (P : Params) : DefOkE (ka.heap_1 P) lo_law_numbers_right 667 30 ir_law_numbers_right := by
  apply defOkE_of
  case ho => with_unfolding_all exact rfl
  case hc => kernel_rfl
  case hb => exact len2 fun _ _ => by kernel_rfl
  case hnd => decide
  case hcn => decide +kernel
theorem ok_law_figures_right (P : Params) : DefOkE (ka.heap_1 P) lo_law_figures_right 672 30 ir_law_figures_right := by
  apply defOkE_of
  case ho => with_unfolding_all exact rfl
  case hc => kernel_rfl
  case hb => exact len1 fun _ => by kernel_rfl
  case hnd => decide
  case hcn => decide +kernel
theorem ok_law (P : Params) : DefOkE (ka.heap_1 P) lo_law 677 30 ir_law := by
  apply defOkE_of
  case ho => with_unfolding_all exact rfl
  case hc => kernel_rfl
  case hb => exact len1 fun _ => by kernel_rfl
  case hnd => decide
  case hcn => decide +kernel
theorem kok (P : Params) : KOk (ka.heap_1 P) := by
  apply kok_of
  case h1 => kernel_rfl
  case h2 => kernel_rfl
  case h3 => exact fun b => by cases b <;> kernel_rfl
  case h4 => kernel_rfl
  case h5 => kernel_rfl
  case h6 => kernel_rfl
  case h7 => kernel_rfl
theorem initAt (P : Params) : InitAt (ka.heap_1 P) := by
  apply initAt_of
  case h1 => with_unfolding_all exact rfl
  case h4 => with_unfolding_all exact rfl
  case h5 => exact rfl
  case h2 => kernel_rfl
  case h3 => kernel_rfl
  case h6 => exact fun v1 v2 => rfl
  case h7 => exact fun v1 v2 => rfl
  case h8 => exact ⟨by kernel_rfl,by kernel_rfl,by kernel_rfl,by kernel_rfl⟩
  case h9 => decide +kernel
  case h10 => kernel_rfl
  case h11 => kernel_rfl
  case h12 => kernel_rfl
theorem xok (P : Params) : XOk (ka.heap_1 P) where
  init := initAt P
  fn := by kernel_rfl
  nm := by kernel_rfl
  bt := by kernel_rfl
  ga := by kernel_rfl
  tt := by kernel_rfl
  ge := by kernel_rfl
  cls := fun C hC => by
    rcases hC with rfl | rfl | rfl
    all_goals (apply xcls_of <;> kernel_rfl)
noncomputable def FnOk (K : Frag) (l : List (Nat × Lo × List IS)) : Prop := ∀ q ∈ l,DefOkE K q.2.1 q.1 30 q.2.2
theorem FnOk.nil {K : Frag} : FnOk K [] := fun q h => nomatch h
theorem FnOk.cons {K : Frag} {g : Nat} {lo : Lo} {ib : List IS} {l : List (Nat × Lo × List IS)} (h : DefOkE K lo g 30 ib) (hl : FnOk K l) : FnOk K ((g,lo,ib) :: l) := fun q hq => by
  rcases List.mem_cons.mp hq with rfl | hq
  · exact h
  · exact hl q hq
theorem fn_ok (P : Params) : FnOk (ka.heap_1 P) firs := (.cons (ok_mask P) (.cons (ok_wrap P) (.cons (ok_signed P) (.cons (ok_extended P) (.cons (ok_bit P) (.cons (ok_top_bit P) (.cons (ok_figures_of P) (.cons (ok_octets_text P) (.cons (ok_octets_of P) (.cons (ok_Register_code P) (.cons (ok_Register_is_extended P) (.cons (ok_Register_is_high P) (.cons (ok_Register_needs_rex P) (.cons (ok_Register_told P) (.cons (ok_early_names P) (.cons (ok_late_ending P) (.cons (ok_gpr P) (.cons (ok_high P) (.cons (ok_octet_register P) (.cons (ok_xmm P) (.cons (ok_segment P) (.cons (ok_late_register P) (.cons (ok_find_register P) (.cons (ok_same_register P) (.cons (ok_whole P) (.cons (ok_part P) (.cons (ok_overlaps P) (.cons (ok_all_registers P) (.cons (ok_joined P) (.cons (ok_State_get P) (.cons (ok_State_put P) (.cons (ok_law_pen P) (.cons (ok_law_draw P) (.cons (ok_law_pick P) (.cons (ok_law_table P) (.cons (ok_law_home P) (.cons (ok_law_meet P) (.cons (ok_law_is_refused P) (.cons (ok_law_row_right P) (.cons (ok_law_names_right P) (.cons (ok_law_state P) (.cons (ok_law_puts_right P) (.cons (ok_law_numbers_right P) (.cons (ok_law_figures_right P) .nil))))))))))))))))))))))))))))))))))))))))))))
theorem pk {prog : Program} {w : World} {p : Program} {loose : List Str} {mean : ExcName → Option Value} {mg mb : Str → Option Value} : PK prog w (ka.heap_1 w.params) p loose mean mg mb :=
  ⟨kok _,xok _,fun ql => reg_sound,fun ql => state_sound,fn_ok _⟩
end Mine.Internal
set_option maxHeartbeats 8000000
namespace Mine
open Internal
theorem all.tw10011055193491271300 : True := trivial
theorem all.tw10034031380863371641 : True := trivial
theorem all.tw10073190252686323273 : True := trivial
theorem all.tw10127320685908719325 : True := trivial
theorem all.tw10130366669087276332 : True := trivial
theorem all.tw10131221437080536637 : True := trivial
theorem all.tw10156424416328317940 : True := trivial
theorem all.tw10168888151487559394 : True := trivial
theorem all.tw10175558820241607032 : True := trivial
theorem all.tw10215604902903598199 : True := trivial
theorem all.tw10252965763247687682 : True := trivial
theorem all.tw10268101183197098196 : True := trivial
theorem all.tw10277526245819850656 : True := trivial
theorem all.tw10289937546816008636 : True := trivial
theorem all.tw10316705163991428254 : True := trivial
theorem all.tw10331167273965929257 : True := trivial
theorem all.tw10334382548555331771 : True := trivial
theorem all.tw10389294372677164839 : True := trivial
theorem all.tw10393596885623623503 : True := trivial
theorem all.tw10407399669362838719 : True := trivial
theorem all.tw10576110018494610262 : True := trivial
theorem all.tw10600613889749566790 : True := trivial
theorem all.tw10634939071730365363 : True := trivial
theorem all.tw10640303290150162726 : True := trivial
theorem all.tw10640348836240559591 : True := trivial
theorem all.tw10649901628825759099 : True := trivial
theorem all.tw10677670038743541358 : True := trivial
theorem all.tw10681620039792923934 : True := trivial
theorem all.tw10696458614491829572 : True := trivial
theorem all.tw10697019674602590866 : True := trivial
theorem all.tw10705108097460422218 : True := trivial
theorem all.tw10787622589932112302 : True := trivial
theorem all.tw10793401674749092046 : True := trivial
theorem all.tw1079708855280229330 : True := trivial
theorem all.tw1081408078033650336 : True := trivial
theorem all.tw10856765595117590405 : True := trivial
theorem all.tw1088589479996732829 : True := trivial
theorem all.tw10912467617979834864 : True := trivial
theorem all.tw10915074446201010522 : True := trivial
theorem all.tw10921597071642053482 : True := trivial
theorem all.tw1095929389519559783 : True := trivial
theorem all.tw10971250334911043752 : True := trivial
theorem all.tw11038128598146805730 : True := trivial
theorem all.tw11051373392699811023 : True := trivial
theorem all.tw11051709101105081487 : True := trivial
theorem all.tw11091474679367250208 : True := trivial
theorem all.tw11093295523969242068 : True := trivial
theorem all.tw11113120797386210373 : True := trivial
theorem all.tw11116879363250112325 : True := trivial
theorem all.tw11139934685464864865 : True := trivial
theorem all.tw11158953913317867288 : True := trivial
theorem all.tw11223482586740685078 : True := trivial
theorem all.tw11233980580357369505 : True := trivial
theorem all.tw11242623580682996947 : True := trivial
theorem all.tw11273133048781285286 : True := trivial
theorem all.tw11330118131623060689 : True := trivial
theorem all.tw1142058581544160548 : True := trivial
theorem all.tw11433317345382964763 : True := trivial
theorem all.tw11441816438227186863 : True := trivial
theorem all.tw11446199593928302625 : True := trivial
theorem all.tw11448872678469705673 : True := trivial
theorem all.tw11488495728068971930 : True := trivial
theorem all.tw11489409643829403841 : True := trivial
theorem all.tw11533779600810293282 : True := trivial
theorem all.tw11563076530477234726 : True := trivial
theorem all.tw11573567738276184859 : True := trivial
theorem all.tw11639333894188339638 : True := trivial
theorem all.tw11736780227944870738 : True := trivial
theorem all.tw11776277695535270532 : True := trivial
theorem all.tw11777086365064915542 : True := trivial
theorem all.tw11798761498685784450 : True := trivial
theorem all.tw11888049472147760879 : True := trivial
theorem all.tw1190298350147741133 : True := trivial
theorem all.tw11904431243951574334 : True := trivial
theorem all.tw11925040711228000680 : True := trivial
theorem all.tw11928815663860865973 : True := trivial
theorem all.tw11931136993785318394 : True := trivial
theorem all.tw11931918283646908614 : True := trivial
theorem all.tw11951307492845570281 : True := trivial
theorem all.tw11961059351148515626 : True := trivial
theorem all.tw11990357761064164650 : True := trivial
theorem all.tw12045870307369049457 : True := trivial
theorem all.tw12071712058454129317 : True := trivial
theorem all.tw1216898108829112853 : True := trivial
theorem all.tw12180536567876656950 : True := trivial
theorem all.tw12221947951091446842 : True := trivial
theorem all.tw12242728926301761999 : True := trivial
theorem all.tw12248520049373816357 : True := trivial
theorem all.tw12254430714555821875 : True := trivial
theorem all.tw12267468486907949403 : True := trivial
theorem all.tw12304872625307995750 : True := trivial
theorem all.tw12345319411167063811 : True := trivial
theorem all.tw12381699962588209086 : True := trivial
theorem all.tw1238725946784135233 : True := trivial
theorem all.tw12394350090093965224 : True := trivial
theorem all.tw12405882331826627501 : True := trivial
theorem all.tw12428716410969305734 : True := trivial
theorem all.tw12447178028490564450 : True := trivial
theorem all.tw12461584238705310493 : True := trivial
theorem all.tw12512054102949984058 : True := trivial
theorem all.tw125183967897747985 : True := trivial
theorem all.tw12563031120210811263 : True := trivial
theorem all.tw12580110897883145167 : True := trivial
theorem all.tw12588980310967471357 : True := trivial
theorem all.tw12715354230963908119 : True := trivial
theorem all.tw12784588452913835247 : True := trivial
theorem all.tw12803817524326497440 : True := trivial
theorem all.tw1286954648207761266 : True := trivial
theorem all.tw12885334096101347146 : True := trivial
theorem all.tw12899656968702213925 : True := trivial
theorem all.tw1291087626157917732 : True := trivial
theorem all.tw12926333453430215753 : True := trivial
theorem all.tw12926644002878227130 : True := trivial
theorem all.tw1295916883094680404 : True := trivial
theorem all.tw12981892083367582941 : True := trivial
theorem all.tw12985212532813657682 : True := trivial
theorem all.tw1298631472846954095 : True := trivial
theorem all.tw13027540482245733427 : True := trivial
theorem all.tw13042374122123996364 : True := trivial
theorem all.tw13057232943065969744 : True := trivial
theorem all.tw13172091369480311280 : True := trivial
theorem all.tw13215351417096909983 : True := trivial
theorem all.tw1323426155142419162 : True := trivial
theorem all.tw1326175403826912198 : True := trivial
theorem all.tw1327343985113690801 : True := trivial
theorem all.tw13280447903547772812 : True := trivial
theorem all.tw13282074430368766303 : True := trivial
theorem all.tw13320810954380615167 : True := trivial
theorem all.tw13370487131934946175 : True := trivial
theorem all.tw13376464931078446103 : True := trivial
theorem all.tw13431290835526063760 : True := trivial
theorem all.tw13455461431897201640 : True := trivial
theorem all.tw13467292715098799918 : True := trivial
theorem all.tw13476624294007221044 : True := trivial
theorem all.tw13492775673106092688 : True := trivial
theorem all.tw13505173894226300209 : True := trivial
theorem all.tw13509908655624090359 : True := trivial
theorem all.tw1352723322627576488 : True := trivial
theorem all.tw13663018214320142090 : True := trivial
theorem all.tw13678831315298964934 : True := trivial
theorem all.tw13717024376598296668 : True := trivial
theorem all.tw13752750167953387420 : True := trivial
theorem all.tw13874455239767017017 : True := trivial
theorem all.tw13900070722340429276 : True := trivial
theorem all.tw13912068318134460016 : True := trivial
theorem all.tw13930999109560414629 : True := trivial
theorem all.tw13960862262899742394 : True := trivial
theorem all.tw14057782590025463129 : True := trivial
theorem all.tw14066901625076523032 : True := trivial
theorem all.tw14068239771850734003 : True := trivial
theorem all.tw14074921412963316263 : True := trivial
theorem all.tw14076077854437140390 : True := trivial
theorem all.tw14081932915414352519 : True := trivial
theorem all.tw14099800850047386279 : True := trivial
theorem all.tw14106571916235994328 : True := trivial
theorem all.tw14124840197023413450 : True := trivial
theorem all.tw14151137839513740329 : True := trivial
theorem all.tw14200518018382609147 : True := trivial
theorem all.tw14201790961670687459 : True := trivial
theorem all.tw14204109254541194217 : True := trivial
theorem all.tw14229981574245695772 : True := trivial
theorem all.tw14242173848286271349 : True := trivial
theorem all.tw14274756557212989909 : True := trivial
theorem all.tw14310873030558110092 : True := trivial
theorem all.tw14365998534574843411 : True := trivial
theorem all.tw14421808642430287336 : True := trivial
theorem all.tw14444207656584330654 : True := trivial
theorem all.tw1446525512094189494 : True := trivial
theorem all.tw14478419276589960357 : True := trivial
theorem all.tw14504465163362997928 : True := trivial
theorem all.tw14511287757244466272 : True := trivial
theorem all.tw14539000326390715668 : True := trivial
theorem all.tw14549113301119539810 : True := trivial
theorem all.tw14615947125993099273 : True := trivial
theorem all.tw14648276583578725374 : True := trivial
theorem all.tw14661163797125724070 : True := trivial
theorem all.tw14701963045326077753 : True := trivial
theorem all.tw14721843458392949018 : True := trivial
theorem all.tw14822214895437561417 : True := trivial
theorem all.tw14832659646925512398 : True := trivial
theorem all.tw14832718209330476552 : True := trivial
theorem all.tw14847532645272441617 : True := trivial
theorem all.tw14848961488311411958 : True := trivial
theorem all.tw14849280956162755979 : True := trivial
theorem all.tw14853665493834295914 : True := trivial
theorem all.tw14883968960377749705 : True := trivial
theorem all.tw14899674885815798178 : True := trivial
theorem all.tw14929683446248860828 : True := trivial
theorem all.tw14940032972901115816 : True := trivial
theorem all.tw14944532100314117126 : True := trivial
theorem all.tw14953325984322379511 : True := trivial
theorem all.tw14954329004993159738 : True := trivial
theorem all.tw14970210157437980911 : True := trivial
theorem all.tw15014361466247048854 : True := trivial
theorem all.tw15054863418237798948 : True := trivial
theorem all.tw15059917014629022394 : True := trivial
theorem all.tw15076152544538823220 : True := trivial
theorem all.tw15081044799308232511 : True := trivial
theorem all.tw15097909243742831393 : True := trivial
theorem all.tw15105651507014581045 : True := trivial
theorem all.tw15145278206449419223 : True := trivial
theorem all.tw15158558636265767147 : True := trivial
theorem all.tw15176617289070330970 : True := trivial
theorem all.tw15198316981687975854 : True := trivial
theorem all.tw15214423783382671123 : True := trivial
theorem all.tw15239438798548257498 : True := trivial
theorem all.tw15242674970999812785 : True := trivial
theorem all.tw15248031165874397040 : True := trivial
theorem all.tw15284455985751111415 : True := trivial
theorem all.tw15298119835317213847 : True := trivial
theorem all.tw15300001336698509272 : True := trivial
theorem all.tw15305453227285626446 : True := trivial
theorem all.tw15331906349341453337 : True := trivial
theorem all.tw15354443143932468990 : True := trivial
theorem all.tw15356805202571662887 : True := trivial
theorem all.tw15389465554420088467 : True := trivial
theorem all.tw15393178847056368160 : True := trivial
theorem all.tw15414233836422861205 : True := trivial
theorem all.tw15451204947285891726 : True := trivial
theorem all.tw15460995928004159328 : True := trivial
theorem all.tw15471726915170369524 : True := trivial
theorem all.tw15541118713287057729 : True := trivial
theorem all.tw15575253945988166476 : True := trivial
theorem all.tw15585509438621463966 : True := trivial
theorem all.tw15612066896164977022 : True := trivial
theorem all.tw15651733941924773997 : True := trivial
theorem all.tw15670805634923389295 : True := trivial
theorem all.tw15671812041987572844 : True := trivial
theorem all.tw15766547542915688834 : True := trivial
theorem all.tw15775133740396041162 : True := trivial
theorem all.tw15849158762323818722 : True := trivial
theorem all.tw1585303152785439333 : True := trivial
theorem all.tw1586037315452845605 : True := trivial
theorem all.tw15888951733556516598 : True := trivial
theorem all.tw15906484144062456574 : True := trivial
theorem all.tw15968848678202421516 : True := trivial
theorem all.tw16016398639907115627 : True := trivial
theorem all.tw1604050991321148793 : True := trivial
theorem all.tw16084742875079473383 : True := trivial
theorem all.tw16088354708999966866 : True := trivial
theorem all.tw16136937179128050694 : True := trivial
theorem all.tw16171933092410999983 : True := trivial
theorem all.tw16176830815697697194 : True := trivial
theorem all.tw16183010546200382306 : True := trivial
theorem all.tw16188822405700688499 : True := trivial
theorem all.tw16215753837559589999 : True := trivial
theorem all.tw16223638597430114740 : True := trivial
theorem all.tw16232008947845578158 : True := trivial
theorem all.tw16288533217561068507 : True := trivial
theorem all.tw16296590348105434372 : True := trivial
theorem all.tw16339503202031470875 : True := trivial
theorem all.tw1639981616727947583 : True := trivial
theorem all.tw16400751074865733910 : True := trivial
theorem all.tw16433278489552267077 : True := trivial
theorem all.tw1644255569911684797 : True := trivial
theorem all.tw16444899576201249432 : True := trivial
theorem all.tw16447172759540358135 : True := trivial
theorem all.tw16457593375850944212 : True := trivial
theorem all.tw16526751206710464603 : True := trivial
theorem all.tw16567661231398824811 : True := trivial
theorem all.tw16576222957257545530 : True := trivial
theorem all.tw16636436465759865564 : True := trivial
theorem all.tw16644902639655322133 : True := trivial
theorem all.tw16665526110328478529 : True := trivial
theorem all.tw16670767465858943553 : True := trivial
theorem all.tw16694476904998839863 : True := trivial
theorem all.tw16700318575013349798 : True := trivial
theorem all.tw16705860606270256717 : True := trivial
theorem all.tw16720883766928916882 : True := trivial
theorem all.tw16726255535346028473 : True := trivial
theorem all.tw16727532447511142511 : True := trivial
theorem all.tw16739083755425606968 : True := trivial
theorem all.tw16739844878667351699 : True := trivial
theorem all.tw16740921855470316824 : True := trivial
theorem all.tw16747629065405408630 : True := trivial
theorem all.tw16773635481313006432 : True := trivial
theorem all.tw16785538882571980543 : True := trivial
theorem all.tw16788233547135642414 : True := trivial
theorem all.tw16857469709051444266 : True := trivial
theorem all.tw16876236935048986776 : True := trivial
theorem all.tw16877496141331604692 : True := trivial
theorem all.tw16900003538434194 : True := trivial
theorem all.tw16926426053830025025 : True := trivial
theorem all.tw1694654335647164047 : True := trivial
theorem all.tw16949009020806574942 : True := trivial
theorem all.tw16985871876413990642 : True := trivial
theorem all.tw17026743227940831712 : True := trivial
theorem all.tw17069222317715477625 : True := trivial
theorem all.tw17084071853196174921 : True := trivial
theorem all.tw17103938086974590038 : True := trivial
theorem all.tw17172520439673271139 : True := trivial
theorem all.tw1717485560449817402 : True := trivial
theorem all.tw17260577670642009320 : True := trivial
theorem all.tw17292822351017121783 : True := trivial
theorem all.tw17314943208353570444 : True := trivial
theorem all.tw17360653242477243975 : True := trivial
theorem all.tw17368901067910498557 : True := trivial
theorem all.tw17371863055441782679 : True := trivial
theorem all.tw17393663094203119047 : True := trivial
theorem all.tw17394647144938102915 : True := trivial
theorem all.tw17408048037380319038 : True := trivial
theorem all.tw17408919567675379883 : True := trivial
theorem all.tw17411639873488161413 : True := trivial
theorem all.tw17424916104665291489 : True := trivial
theorem all.tw17447734377096445370 : True := trivial
theorem all.tw17468886310826310451 : True := trivial
theorem all.tw17469454598705902373 : True := trivial
theorem all.tw17485024515217194642 : True := trivial
theorem all.tw1752733083305661762 : True := trivial
theorem all.tw17558465517493045558 : True := trivial
theorem all.tw17590515576409907731 : True := trivial
theorem all.tw17606682298306965290 : True := trivial
theorem all.tw17657238230949819594 : True := trivial
theorem all.tw17711473739705145481 : True := trivial
theorem all.tw17711910997332876922 : True := trivial
theorem all.tw17740860788197283744 : True := trivial
theorem all.tw17772726858579744284 : True := trivial
theorem all.tw17800948086707717751 : True := trivial
theorem all.tw17818293817903590521 : True := trivial
theorem all.tw17840812128005083152 : True := trivial
theorem all.tw17843529362963011488 : True := trivial
theorem all.tw17899929404969355535 : True := trivial
theorem all.tw17914837950057056417 : True := trivial
theorem all.tw17933553581876595578 : True := trivial
theorem all.tw17983917188297756147 : True := trivial
theorem all.tw18003279642469066050 : True := trivial
theorem all.tw18058516629519361111 : True := trivial
theorem all.tw18068929663759586442 : True := trivial
theorem all.tw18074533905802821072 : True := trivial
theorem all.tw18094267598192979275 : True := trivial
theorem all.tw18107075240765231021 : True := trivial
theorem all.tw18118164260907729349 : True := trivial
theorem all.tw18120535436291149196 : True := trivial
theorem all.tw18124843273605240230 : True := trivial
theorem all.tw18168848097628341329 : True := trivial
theorem all.tw18291108133853008933 : True := trivial
theorem all.tw1832691508475867565 : True := trivial
theorem all.tw18343157571677020557 : True := trivial
theorem all.tw18369841484834026144 : True := trivial
theorem all.tw18422150028754028023 : True := trivial
theorem all.tw18433079168191953831 : True := trivial
theorem all.tw18433669859833586122 : True := trivial
theorem all.tw18441473437031201941 : True := trivial
theorem all.tw1848905817553068399 : True := trivial
theorem all.tw1859658367360657537 : True := trivial
theorem all.tw1885294564261713141 : True := trivial
theorem all.tw1889638843068827834 : True := trivial
theorem all.tw1904651353081489755 : True := trivial
theorem all.tw1963270939698246839 : True := trivial
theorem all.tw1973140245219671491 : True := trivial
theorem all.tw1985402699469526011 : True := trivial
theorem all.tw2013830700403712203 : True := trivial
theorem all.tw201708328148552895 : True := trivial
theorem all.tw2054712967208431000 : True := trivial
theorem all.tw2114198189418970486 : True := trivial
theorem all.tw2144533961223786307 : True := trivial
theorem all.tw2286941943676669977 : True := trivial
theorem all.tw2299508167122706282 : True := trivial
theorem all.tw2316775634158704177 : True := trivial
theorem all.tw2362829445674453831 : True := trivial
theorem all.tw2366535826993118143 : True := trivial
theorem all.tw2409336829466977466 : True := trivial
theorem all.tw2442836877315861853 : True := trivial
theorem all.tw247909236438806434 : True := trivial
theorem all.tw2479237469882504799 : True := trivial
theorem all.tw2494268533263957097 : True := trivial
theorem all.tw2531900633515307401 : True := trivial
theorem all.tw2550029180669979304 : True := trivial
theorem all.tw2557191316624668217 : True := trivial
theorem all.tw2627396739876165418 : True := trivial
theorem all.tw2750322548573693319 : True := trivial
theorem all.tw2792250951161479536 : True := trivial
theorem all.tw2798396993581604531 : True := trivial
theorem all.tw281770217567036725 : True := trivial
theorem all.tw282076826160197541 : True := trivial
theorem all.tw282994513109133150 : True := trivial
theorem all.tw2842816785644039571 : True := trivial
theorem all.tw2891402810631288588 : True := trivial
theorem all.tw2972125363121769464 : True := trivial
theorem all.tw2995925781233325151 : True := trivial
theorem all.tw2997595627926355555 : True := trivial
theorem all.tw29985565223642888 : True := trivial
theorem all.tw3006146034401029692 : True := trivial
theorem all.tw306535358961565008 : True := trivial
theorem all.tw3082626142003458053 : True := trivial
theorem all.tw3108443244893856389 : True := trivial
theorem all.tw3153289441736887298 : True := trivial
theorem all.tw3165661143165402847 : True := trivial
theorem all.tw3185962312253278316 : True := trivial
theorem all.tw3204017013573700639 : True := trivial
theorem all.tw3225869345168946285 : True := trivial
theorem all.tw3239841934065285509 : True := trivial
theorem all.tw3282140407130366615 : True := trivial
theorem all.tw328508388705569248 : True := trivial
theorem all.tw3298683737301795645 : True := trivial
theorem all.tw3301142437192073055 : True := trivial
theorem all.tw330689408868203144 : True := trivial
theorem all.tw3318330705443729038 : True := trivial
theorem all.tw3318677167507295741 : True := trivial
theorem all.tw3339628229899013760 : True := trivial
theorem all.tw3347175955162335329 : True := trivial
theorem all.tw335442867052375821 : True := trivial
theorem all.tw3357559941945735724 : True := trivial
theorem all.tw3390864358609898268 : True := trivial
theorem all.tw3440317332850252569 : True := trivial
theorem all.tw3448833343719912132 : True := trivial
theorem all.tw3468823194966119755 : True := trivial
theorem all.tw3477183460249832127 : True := trivial
theorem all.tw3482175957882590323 : True := trivial
theorem all.tw3516009707026607567 : True := trivial
theorem all.tw3527972740633252992 : True := trivial
theorem all.tw3578222212851893600 : True := trivial
theorem all.tw3586251380002802234 : True := trivial
theorem all.tw3616883902118795587 : True := trivial
theorem all.tw3630066180865283129 : True := trivial
theorem all.tw3700716474693379825 : True := trivial
theorem all.tw3702781205502781313 : True := trivial
theorem all.tw3737605839529819480 : True := trivial
theorem all.tw3780143478300131934 : True := trivial
theorem all.tw3783704252341326843 : True := trivial
theorem all.tw3788544764152331944 : True := trivial
theorem all.tw3832104259330054055 : True := trivial
theorem all.tw3835962111665225711 : True := trivial
theorem all.tw3849640880644552707 : True := trivial
theorem all.tw3855190133869164905 : True := trivial
theorem all.tw3898467250045930460 : True := trivial
theorem all.tw3905375630023619888 : True := trivial
theorem all.tw3949192924188805160 : True := trivial
theorem all.tw4005113011885737416 : True := trivial
theorem all.tw4042081470518812301 : True := trivial
theorem all.tw407466490171300439 : True := trivial
theorem all.tw409914518651768084 : True := trivial
theorem all.tw4128963183011607505 : True := trivial
theorem all.tw4154878040674242839 : True := trivial
theorem all.tw4156143147478942181 : True := trivial
theorem all.tw4188425034280262744 : True := trivial
theorem all.tw4195489330254351329 : True := trivial
theorem all.tw4198835854440487071 : True := trivial
theorem all.tw4214497047443048748 : True := trivial
theorem all.tw4240545211757986076 : True := trivial
theorem all.tw4241227540667249002 : True := trivial
theorem all.tw4244794441018138637 : True := trivial
theorem all.tw4258606087713283508 : True := trivial
theorem all.tw4302931102428780990 : True := trivial
theorem all.tw4338314545742005754 : True := trivial
theorem all.tw4350801690150286559 : True := trivial
theorem all.tw4382491568596388571 : True := trivial
theorem all.tw44263415142174766 : True := trivial
theorem all.tw4430775014708722610 : True := trivial
theorem all.tw4438364104728389296 : True := trivial
theorem all.tw4463848349969469772 : True := trivial
theorem all.tw4498182102138418894 : True := trivial
theorem all.tw4515135292898193881 : True := trivial
theorem all.tw4544264296663088324 : True := trivial
theorem all.tw4547723090059260100 : True := trivial
theorem all.tw4561188658046838414 : True := trivial
theorem all.tw4613487602407358717 : True := trivial
theorem all.tw4613981591765525805 : True := trivial
theorem all.tw4631590275013254457 : True := trivial
theorem all.tw4634341240264483431 : True := trivial
theorem all.tw4645612490112672357 : True := trivial
theorem all.tw4668463256276291897 : True := trivial
theorem all.tw4716985721665009587 : True := trivial
theorem all.tw4722931859811370693 : True := trivial
theorem all.tw4726450323565452186 : True := trivial
theorem all.tw4765306392115962693 : True := trivial
theorem all.tw4786962568827011835 : True := trivial
theorem all.tw4801688742562958406 : True := trivial
theorem all.tw4814944892674192296 : True := trivial
theorem all.tw4818641064637329869 : True := trivial
theorem all.tw4831860214510110302 : True := trivial
theorem all.tw4835796080096327916 : True := trivial
theorem all.tw4847766330237268548 : True := trivial
theorem all.tw4874642235004048027 : True := trivial
theorem all.tw4907521953547317329 : True := trivial
theorem all.tw4927947371108770993 : True := trivial
theorem all.tw4942582282674782268 : True := trivial
theorem all.tw4965207536615798822 : True := trivial
theorem all.tw497388943360791162 : True := trivial
theorem all.tw4983024317834737482 : True := trivial
theorem all.tw5002070824922625533 : True := trivial
theorem all.tw5007245332940595331 : True := trivial
theorem all.tw5061037604254504937 : True := trivial
theorem all.tw5103420120806187630 : True := trivial
theorem all.tw5162543521180666497 : True := trivial
theorem all.tw5187159431361770467 : True := trivial
theorem all.tw5191467471856622273 : True := trivial
theorem all.tw5213130599944360801 : True := trivial
theorem all.tw5217560924200664910 : True := trivial
theorem all.tw5221675337516389627 : True := trivial
theorem all.tw5248012151768918434 : True := trivial
theorem all.tw525001674005675781 : True := trivial
theorem all.tw5362506446432344171 : True := trivial
theorem all.tw5384384141979625699 : True := trivial
theorem all.tw5439016543574858206 : True := trivial
theorem all.tw5440085390276978291 : True := trivial
theorem all.tw5463181917568680212 : True := trivial
theorem all.tw5476340991381562312 : True := trivial
theorem all.tw5543487718492105064 : True := trivial
theorem all.tw5553432485147669529 : True := trivial
theorem all.tw5555718599999811639 : True := trivial
theorem all.tw5558808128744370633 : True := trivial
theorem all.tw5601264028959731896 : True := trivial
theorem all.tw5615151462926910227 : True := trivial
theorem all.tw5615934883764171431 : True := trivial
theorem all.tw561872325786274548 : True := trivial
theorem all.tw5641124861440336686 : True := trivial
theorem all.tw5646013916729498261 : True := trivial
theorem all.tw5646740079091317433 : True := trivial
theorem all.tw5657447785659697480 : True := trivial
theorem all.tw5657931515703916248 : True := trivial
theorem all.tw5675193095830314289 : True := trivial
theorem all.tw5689438673786977140 : True := trivial
theorem all.tw5715779271170130959 : True := trivial
theorem all.tw5718967094426423161 : True := trivial
theorem all.tw5747321363474778693 : True := trivial
theorem all.tw5750698986362780913 : True := trivial
theorem all.tw5757183310368202514 : True := trivial
theorem all.tw5761313309558253367 : True := trivial
theorem all.tw5781126440621211168 : True := trivial
theorem all.tw5809492475409976136 : True := trivial
theorem all.tw5815207240830897808 : True := trivial
theorem all.tw583233376362171505 : True := trivial
theorem all.tw5854907428364158380 : True := trivial
theorem all.tw5872707524965568389 : True := trivial
theorem all.tw5884965284304258897 : True := trivial
theorem all.tw5919330448614353153 : True := trivial
theorem all.tw5927061715728957476 : True := trivial
theorem all.tw5931688323066260514 : True := trivial
theorem all.tw5936211784296988740 : True := trivial
theorem all.tw596421839371371174 : True := trivial
theorem all.tw6055196601331254383 : True := trivial
theorem all.tw6147308635103535561 : True := trivial
theorem all.tw6169999212503205497 : True := trivial
theorem all.tw6176105912117767087 : True := trivial
theorem all.tw6178583632892115015 : True := trivial
theorem all.tw6189357195160471388 : True := trivial
theorem all.tw6223034424235540279 : True := trivial
theorem all.tw62474882234398736 : True := trivial
theorem all.tw6271033356711949733 : True := trivial
theorem all.tw6280451789465376435 : True := trivial
theorem all.tw636524550079685631 : True := trivial
theorem all.tw6393532188824929214 : True := trivial
theorem all.tw6495733333828780514 : True := trivial
theorem all.tw6516363680345034613 : True := trivial
theorem all.tw6575127235232548739 : True := trivial
theorem all.tw6635096433462372448 : True := trivial
theorem all.tw6635522753158126860 : True := trivial
theorem all.tw6648324312943424196 : True := trivial
theorem all.tw6651456455751515877 : True := trivial
theorem all.tw6674347012523051200 : True := trivial
theorem all.tw6686757251022233349 : True := trivial
theorem all.tw6717767316833874322 : True := trivial
theorem all.tw6721464258858852875 : True := trivial
theorem all.tw6794366774042380578 : True := trivial
theorem all.tw6836359950869179439 : True := trivial
theorem all.tw6849123771955923804 : True := trivial
theorem all.tw6853843781069519680 : True := trivial
theorem all.tw6860577389561355601 : True := trivial
theorem all.tw6873541528101158377 : True := trivial
theorem all.tw68815829978753266 : True := trivial
theorem all.tw6888782338466086140 : True := trivial
theorem all.tw6896591704953265671 : True := trivial
theorem all.tw6900727353157573822 : True := trivial
theorem all.tw6946980451890315270 : True := trivial
theorem all.tw6950096446663180783 : True := trivial
theorem all.tw7000523462626781010 : True := trivial
theorem all.tw7130465076275759521 : True := trivial
theorem all.tw7159026401054745538 : True := trivial
theorem all.tw7193976414177721783 : True := trivial
theorem all.tw7205895575636617080 : True := trivial
theorem all.tw7234240908195146063 : True := trivial
theorem all.tw7238125184777875665 : True := trivial
theorem all.tw7255959162708018199 : True := trivial
theorem all.tw7263415099574290149 : True := trivial
theorem all.tw7272270352196073673 : True := trivial
theorem all.tw7317653850160689691 : True := trivial
theorem all.tw7347661181068853997 : True := trivial
theorem all.tw7385006340035058783 : True := trivial
theorem all.tw7395723980069397352 : True := trivial
theorem all.tw7400686549319467544 : True := trivial
theorem all.tw741329169588805604 : True := trivial
theorem all.tw7442053078452299063 : True := trivial
theorem all.tw7473514446972121862 : True := trivial
theorem all.tw7492772011675989385 : True := trivial
theorem all.tw7514489123796633772 : True := trivial
theorem all.tw7526055705614311852 : True := trivial
theorem all.tw7546461858588002845 : True := trivial
theorem all.tw755134328155928439 : True := trivial
theorem all.tw7619113539625694710 : True := trivial
theorem all.tw7654578318931278690 : True := trivial
theorem all.tw7657994479303150727 : True := trivial
theorem all.tw7660858615051961871 : True := trivial
theorem all.tw766856551031688912 : True := trivial
theorem all.tw76700771618905059 : True := trivial
theorem all.tw7673000382406722879 : True := trivial
theorem all.tw7686242042924871683 : True := trivial
theorem all.tw7778630667622746703 : True := trivial
theorem all.tw7779009951696393383 : True := trivial
theorem all.tw7779709147687300728 : True := trivial
theorem all.tw7779866328928976063 : True := trivial
theorem all.tw7785168158365692624 : True := trivial
theorem all.tw7806705025204041241 : True := trivial
theorem all.tw7824222052329908659 : True := trivial
theorem all.tw7848317997028865603 : True := trivial
theorem all.tw7855422573467142813 : True := trivial
theorem all.tw785864177541677141 : True := trivial
theorem all.tw7867681300357518899 : True := trivial
theorem all.tw7888970235439995493 : True := trivial
theorem all.tw7899379758991183832 : True := trivial
theorem all.tw7916160540357663616 : True := trivial
theorem all.tw7918374967389245632 : True := trivial
theorem all.tw7946034326556018432 : True := trivial
theorem all.tw8026366407565007962 : True := trivial
theorem all.tw80721349811472939 : True := trivial
theorem all.tw8076105961534405009 : True := trivial
theorem all.tw8096221689764760052 : True := trivial
theorem all.tw8108845850537571710 : True := trivial
theorem all.tw8111057081096800836 : True := trivial
theorem all.tw8121427672614705931 : True := trivial
theorem all.tw8146785798897364014 : True := trivial
theorem all.tw8183209053709734173 : True := trivial
theorem all.tw8203446524507428889 : True := trivial
theorem all.tw8219367837509555709 : True := trivial
theorem all.tw8312510263607220780 : True := trivial
theorem all.tw8315046463243809389 : True := trivial
theorem all.tw8316665608867782698 : True := trivial
theorem all.tw8373720323635723369 : True := trivial
theorem all.tw8397605616207071183 : True := trivial
theorem all.tw8398887430952950212 : True := trivial
theorem all.tw8401958774316805891 : True := trivial
theorem all.tw8470013173776555164 : True := trivial
theorem all.tw8474492796817999161 : True := trivial
theorem all.tw8486705261324164726 : True := trivial
theorem all.tw8543756510809834644 : True := trivial
theorem all.tw8593244855664925795 : True := trivial
theorem all.tw8600759836979252552 : True := trivial
theorem all.tw8616835277999145119 : True := trivial
theorem all.tw8621771247159374411 : True := trivial
theorem all.tw8630030210275731936 : True := trivial
theorem all.tw8670540905479144303 : True := trivial
theorem all.tw8678582069086723682 : True := trivial
theorem all.tw8689057759390064058 : True := trivial
theorem all.tw8706731066875689191 : True := trivial
theorem all.tw8711421783369662179 : True := trivial
theorem all.tw8728704332973717658 : True := trivial
theorem all.tw8749193726656077916 : True := trivial
theorem all.tw8838840417862019655 : True := trivial
theorem all.tw8845110488550816924 : True := trivial
theorem all.tw884644925536651315 : True := trivial
theorem all.tw8848042172178993908 : True := trivial
theorem all.tw885046472334632136 : True := trivial
theorem all.tw8857914048673524507 : True := trivial
theorem all.tw888978351763286717 : True := trivial
theorem all.tw8901488873923373992 : True := trivial
theorem all.tw890751993682150155 : True := trivial
theorem all.tw8908958038130373740 : True := trivial
theorem all.tw8909644736058714228 : True := trivial
theorem all.tw8948736912299370593 : True := trivial
theorem all.tw8968355716326206664 : True := trivial
theorem all.tw898707613593260451 : True := trivial
theorem all.tw9022205114861038860 : True := trivial
theorem all.tw9069304868558884969 : True := trivial
theorem all.tw9090173269774583996 : True := trivial
theorem all.tw9099960808112739735 : True := trivial
theorem all.tw9107108562952019494 : True := trivial
theorem all.tw9111709882147129655 : True := trivial
theorem all.tw9133701021851612117 : True := trivial
theorem all.tw9142619525353888168 : True := trivial
theorem all.tw9163178095015654352 : True := trivial
theorem all.tw9186790425516483314 : True := trivial
theorem all.tw9196661522157602471 : True := trivial
theorem all.tw9241353231930656577 : True := trivial
theorem all.tw927500100414286832 : True := trivial
theorem all.tw9285670843845949155 : True := trivial
theorem all.tw9301309066579124778 : True := trivial
theorem all.tw9305783451064888827 : True := trivial
theorem all.tw9351078540693612215 : True := trivial
theorem all.tw9379264858417805688 : True := trivial
theorem all.tw9385597778382524922 : True := trivial
theorem all.tw9386671084012761886 : True := trivial
theorem all.tw9397017562490477109 : True := trivial
theorem all.tw9405301459192476718 : True := trivial
theorem all.tw9455471141526271117 : True := trivial
theorem all.tw9496632788025766839 : True := trivial
theorem all.tw9514876090768664877 : True := trivial
theorem all.tw9543871751676338751 : True := trivial
theorem all.tw9570754706468278650 : True := trivial
theorem all.tw9592678889267232940 : True := trivial
theorem all.tw9600454056292803967 : True := trivial
theorem all.tw9609096358927944886 : True := trivial
theorem all.tw9642480246203547912 : True := trivial
theorem all.tw9700507354520375304 : True := trivial
theorem all.tw9736357143714314311 : True := trivial
theorem all.tw9762715593372247759 : True := trivial
theorem all.tw9764797518255496921 : True := trivial
theorem all.tw9807931448117422837 : True := trivial
theorem all.tw9833964599435250050 : True := trivial
theorem all.tw9843424985483213050 : True := trivial
theorem all.tw9952970006915852218 : True := trivial
theorem all.tw9960083256741680508 : True := trivial
theorem all.tw9976896545867408452 : True := trivial
theorem all.tw9978650239940765598 : True := trivial
set_option Elab.async true in
theorem all : PySem.Challenge.rw_nn0058_01.Holds := by
  w_on
  o_law
  o_head (kmHook Mine.ka.heap_1 [2,3,15,17,18,20,21,22,29,30,32,33,35,36,37,39,40,42,43,44,45,46,47,50,57,58,59,62,69,70,71,74,81,82,83,86,88,89,91,92,93,95,96,98,99,100,102,103,105,106,107,109,110,112,113,114,116,117,119,120,121,123,124,126,127,128,130,131,133,134,135,138,139,140,143,144,152,154,155,157,158,159,161,162,164,165,166,168,169,171,172,173,175,176,178,179,180,182,183,185,186,187,189,190,192,193,194,195,196,197,198,201,203,204,206,207,208,210,211,213,214,215,217,218,220,221,222,224,225,227,228,229,231,232,234,235,236,238,239,241,242,243,245,246,248,249,250,252,253,255,256,257,259,260,262,263,264,266,267,269,270,271,273,274,276,277,278,280,281,283,284,285,287,288,290,291,292,294,295,297,298,299,302,303,311,313,314,316,317,318,320,321,323,324,325,327,328,330,331,332,334,335,337,338,339,341,342,344,345,346,348,349,351,352,353,355,356,358,359,360,362,363,365,366,367,369,370,372,373,374,375,376,377,378,388,390,391,393,394,395,397,398,400,401,402,404,405,407,408,409,411,412,414,415,416,418,419,421,422,423,425,426,428,429,430,433,434,435,438,439,440,442,443,445,446,447,449,450,452,453,454,456,457,459,460,461,463,464,466,467,468,469,470,471,472,475,477,478,480,481,489,491,492,494,495,496,498,499,501,502,503,505,506,508,509,510,512,513,515,516,517,520,521,522,524,525,527,528,529,531,532,534,535,536,538,539,541,542,543,545,546,548,549,550,552,553,555,556,557,559,560,562,563,564,566,567,569,570,571,573,574,576,577,578,580,581,583,584,585,586,587,588,589,592,594,595,597,598,599,601,602,604,605,606,608,609,611,612,613,616,617,618,620,621,623,624,625,627,628,630,631,632,634,635,637,638,639,642,643,644,647,648,649,651,652,654,655,656,659,660,661,663,664,666,667,668,671,672,673,676,677] (fun _ => by kernel_rfl) [645,640])
  case hw => w_witness2
  k_go0
  refine' law_run (D := 18) (g := (wps (tabT l5) (tabT l6) 26).2) (n := 30) (ib := ir_law) ?yhg ?yDO ?yhnl ?yhroom ?yhun ?yX ?yT ?yF ?yN ?yCA ?ylst ?yhi ?yhb ?yhQ
  case yX => assumption
  case yT => assumption
  case yF => assumption
  case yN => assumption
  case yCA => assumption
  case ylst => assumption
  case yhi => assumption
  case yhroom => decide
  case yhun => decide
  case yhnl => kernel_rfl
  case yhQ =>
    intro s' m hs hF g1 g2
    obtain ⟨h',tk',rfl⟩ := hs
    refine ⟨?_,⟨g1,⟨g2,trivial⟩⟩⟩
    refine goodW_bool hF (by assumption) (raisesW_false ?_) ?_
    · wrow_none_raised
    · wrow_post
  case yDO =>
    apply bodyOk_of (lo := lo_law)
    case hc => kernel_rfl
    case hnd => decide
    case hcn => decide +kernel
  case yhg => exact law_sound pk
  case yhb => exact law_true (by omega)
end Mine
end
theorem PySem.Challenge.cw_nn0058_01_holds : PySem.Challenge.rw_nn0058_01.Holds :=
  Mine.all
