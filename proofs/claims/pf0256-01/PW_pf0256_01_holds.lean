import PyProof.Rows.All
import Wide.All
import OpenK.AllK
import Wide.FinOn
import PyProof.NoPylong
import PyProof.ExcArgsOwn
import PyProof.ExcAttrAll.Exception
import PyProof.ExcInit
import PyProof.InstStoreFacts
import KE.BytesMake
import KE.LcSums
import KE.KBytesCut
import KE.KLcPair
import KE.KSliceW
import KE.KNestM
import KE.KSortTup
import KE.KTypeName
import PySem.Challenge.RW_pf0256_01
set_option Elab.async false
section
open PySem
set_option autoImplicit false
namespace Mine

inductive BI where
  | len | max | min | list | bytes | sorted | range

/-- what a value is, said without addresses and tokens -/
inductive V where
  | none
  | bool (b : Bool)
  | int (i : Int)
  | str (x : Str)
  | bytes (b : List UInt8)
  | loc (k : Nat)
  | bi (b : BI)
  | fn (a : Nat)
  | any (m : Nat)
  | anyb

/-- an object that the call has made -/
inductive O where
  | list (xs : List V)
  | tuple (xs : List V)
  | inst (d : Nat)
  | dict (fs : List (Str × V))
  | cell (v : Option V)
  | tab (l c : Nat) (q : Str)
  | pen (c : Nat)

noncomputable abbrev Loc := List (Str × V)

structure FI where
  qual : Str
  names : List (Str × NameKind)
  cells : List (Str × Nat)
  tab : Option Nat
  fn : Bool

structure St where
  led : List O
  loc : Loc

inductive Res where
  | ok (v : V)
  | ex (c f : Int)

inductive Flo where
  | next
  | ret (v : V)
  | ex (c f : Int)

structure Rec where
  orc : Nat → Int → Option Int
  pr : Bool
  ev : FI → Expr → St → Option (Res × St)
  tst : FI → Expr → St → Option (Bool × St)
  exs : FI → List Stmt → St → Option (Flo × St)

/-! Lists by their recursor alone: the kernel runs these. -/
/-- a sum of a name's signs: two names of unlike sums are two names -/
noncomputable def key (x : Str) : Nat := x.cps.toList.foldl (fun h c => h * 8191 + c + 1) 0
noncomputable def eqS (a b : Str) : Bool := match Nat.beq (key a) (key b) with
  | true => decide (a = b)
  | false => false
theorem eqS_eq (a b : Str) : eqS a b = decide (a = b) := by
  unfold eqS
  cases h : Nat.beq (key a) (key b) with
  | true => rfl
  | false =>
    have hn : a ≠ b := fun e => by
      rw [e] at h
      rw [Nat.beq_refl] at h
      cases h
    exact (decide_eq_false hn).symm
theorem eqS_true {a b : Str} (h : eqS a b = true) : a = b := by
  rw [eqS_eq] at h
  exact of_decide_eq_true h
theorem eqS_false {a b : Str} (h : eqS a b = false) : a ≠ b := by
  rw [eqS_eq] at h
  exact of_decide_eq_false h
theorem eqS_self (a : Str) : eqS a a = true := by
  rw [eqS_eq]
  exact decide_eq_true rfl
noncomputable def lk {α : Type} (l : List (Str × α)) (x : Str) : Option α := List.rec none (fun p _ ih => Prod.rec (fun a v => match eqS x a with
  | true => some v
  | false => ih) p) l
theorem lk_nil {α : Type} (x : Str) : lk ([] : List (Str × α)) x = none := rfl
theorem lk_cons {α : Type} (p : Str × α) (l : List (Str × α)) (x : Str) : lk (p :: l) x = match eqS x p.1 with
  | true => some p.2
  | false => lk l x := by cases p; rfl
noncomputable def app {α : Type} (xs ys : List α) : List α := List.rec ys (fun x _ ih => x :: ih) xs
theorem app_eq {α : Type} (xs ys : List α) : app xs ys = xs ++ ys := by
  induction xs with
  | nil => rfl
  | cons x xs ih => show x :: app xs ys = _; rw [ih]; rfl
noncomputable def setL {α : Type} (xs : List α) : Nat → α → List α := List.rec (fun _ _ => []) (fun x t ih n a => Nat.rec (a :: t) (fun m _ => x :: ih m a) n) xs
theorem setL_eq {α : Type} (xs : List α) : ∀ (n : Nat) (a : α), setL xs n a = xs.set n a := by
  induction xs with
  | nil => intro n a; rfl
  | cons x xs ih =>
    intro n a
    cases n with
    | zero => rfl
    | succ m => show x :: setL xs m a = _; rw [ih]; rfl
noncomputable def nth {α : Type} (xs : List α) : Nat → Option α := List.rec (fun _ => none) (fun x _ ih n => Nat.rec (some x) (fun m _ => ih m) n) xs
theorem nth_eq {α : Type} (xs : List α) : ∀ n : Nat, nth xs n = xs[n]? := by
  induction xs with
  | nil => intro n; rfl
  | cons x xs ih =>
    intro n
    cases n with
    | zero => rfl
    | succ m => show nth xs m = _; rw [ih]; rfl
noncomputable def len {α : Type} (xs : List α) : Nat := List.rec 0 (fun _ _ ih => Nat.succ ih) xs
theorem len_eq {α : Type} (xs : List α) : len xs = xs.length := by
  induction xs with
  | nil => rfl
  | cons x xs ih => show Nat.succ (len xs) = _; rw [ih]; rfl
noncomputable def put (x : Str) (v : V) (l : Loc) : Loc := List.rec [(x, v)] (fun p r ih => Prod.rec (fun a u => match eqS a x with
  | true => (x, v) :: r
  | false => (a, u) :: ih) p) l
theorem put_nil (x : Str) (v : V) : put x v [] = [(x, v)] := rfl
theorem put_cons (x : Str) (v : V) (p : Str × V) (r : Loc) : put x v (p :: r) = match eqS p.1 x with
  | true => (x, v) :: r
  | false => p :: put x v r := by cases p; rfl

noncomputable def small {α : Type} (xs : List α) : Bool := Nat.ble (len xs) 1000

/-! The text's functions, out of the row's own term. -/
structure Fn where
  qual : Str
  params : List Str
  body : List Stmt
  names : List (Str × NameKind)
  tab : Option Nat
noncomputable def fnOfStmt (pre : Str) (tab : Option Nat) : Stmt → Option Fn
  | .FunctionDef (name := n) (args := as) (body := b) (scope := sc) .. => some { qual := pre ++ n, params := as.args.map (·.arg), body := b, names := sc.names, tab := tab }
  | _ => none
noncomputable def top (i : Nat) : Option Stmt := PySem.Challenge.pw_pf0256_01.main.body[i]?
noncomputable def topFn (i : Nat) (tab : Option Nat := none) : Option Fn := (top i).bind (fnOfStmt Str.empty tab)
noncomputable def methFn (i j : Nat) : Option Fn := match top i with
  | some (.ClassDef (name := n) (body := b) ..) => b[j]?.bind (fnOfStmt (n ++ ("." : Str)) none)
  | _ => none
/-- the function at a written address -/
noncomputable def fnAt : Nat → Option Fn
  | 41 => topFn 5
  | 48 => topFn 6
  | 60 => topFn 9
  | 74 => methFn 19 0
  | 81 => methFn 19 1
  | 88 => methFn 19 2
  | 95 => methFn 19 3
  | 102 => methFn 19 4
  | 109 => methFn 19 5
  | 116 => methFn 19 6
  | 123 => methFn 19 7
  | 130 => methFn 19 8
  | 137 => methFn 19 9
  | 144 => methFn 19 10
  | 158 => topFn 21
  | 172 => topFn 23
  | 186 => topFn 25
  | 191 => topFn 26 (some 0)
  | 198 => topFn 27 (some 0)
  | 205 => topFn 28
  | _ => none
noncomputable def methods : List (Str × Nat) := [("check_end", 81), ("grown", 88), ("on_stream", 95), ("has_all", 102), ("on_reset", 109), ("read", 116), ("stop", 123), ("raise_limit", 130), ("used_to", 137), ("is_over", 144)]
noncomputable def globs : List (Str × V) := [("QuicError", .fn 31), ("FINAL_SIZE_ERROR", .int 6), ("FLOW_CONTROL_ERROR", .int 3), ("add_piece", .fn 41), ("taken_from", .fn 48), ("covered", .fn 53), ("has_span", .fn 60),
  ("RECEIVING", .str "recv"), ("SIZE_KNOWN", .str "size_known"), ("DATA_RECEIVED", .str "data_recvd"), ("DATA_READ", .str "data_read"), ("RESET_RECEIVED", .str "reset_recvd"), ("RESET_READ", .str "reset_read"), ("FRAME_RESET", .int 4), ("FRAME_STREAM", .int 8),
  ("RecvPart", .fn 147), ("_law_states", .fn 158), ("_law_next", .fn 165), ("_law_led", .fn 172), ("_law_told", .fn 179), ("_law_refused", .fn 186), ("_law_stream_right", .fn 191), ("_law_reset_right", .fn 198), ("_law_reading_right", .fn 205)]
noncomputable def builts : List (Str × V) := [("len", .bi .len), ("sorted", .bi .sorted), ("max", .bi .max), ("min", .bi .min), ("list", .bi .list), ("bytes", .bi .bytes), ("range", .bi .range)]

/-! An expression's make, one step: what the kernel reads of the text. -/
inductive View where
  | const (c : Const)
  | name (x : Str)
  | bin (l : Expr) (op : Operator) (r : Expr)
  | un (op : UnaryOp) (x : Expr)
  | bool (op : BoolOp) (es : List Expr)
  | cmp (l : Expr) (ops : List CmpOp) (rs : List Expr)
  | ifx (t a b : Expr)
  | tup (es : List Expr)
  | lst (es : List Expr)
  | slice (value : Expr) (lo hi : Option Expr)
  | idx (value slice : Expr)
  | attr (o attr : Str)
  | told (f : Str) (ps : Arguments) (body : Expr) (sc : Scope) (pos : Pos)
  | call (f : Str) (args : List Expr)
  | meth (o name : Str) (args : List Expr)
  | bad
noncomputable def viewSub (value slice : Expr) : View := match slice with
  | .Slice lo hi none _ => .slice value lo hi
  | .Name .. => .idx value slice
  | .IfExp .. => .idx value slice
  | _ => .bad
noncomputable def viewNamed (f : Str) (args : List Expr) : View := match args with
  | [.Lambda ps body sc pos] => .told f ps body sc pos
  | args => .call f args
noncomputable def viewCall (f : Expr) (args : List Expr) (kws : List Keyword) (pos : Pos) : View := match kws with
  | [] => match f with
    | .Attribute (.Name o _) name apos => match Nat.beq apos.endLine pos.line && Nat.blt (len args) 30 with
      | true => .meth o name args
      | false => .bad
    | .Name f _ => viewNamed f args
    | _ => .bad
  | _ => .bad
noncomputable def view (e : Expr) : View := match e with
  | .Constant c _ _ => .const c
  | .Name x _ => .name x
  | .BinOp l op r _ => .bin l op r
  | .UnaryOp op x _ => .un op x
  | .BoolOp op es _ => .bool op es
  | .Compare l ops rs _ => .cmp l ops rs
  | .IfExp t a b _ => .ifx t a b
  | .Tuple es _ _ => .tup es
  | .List es _ => .lst es
  | .Subscript value slice _ => viewSub value slice
  | .Attribute (.Name x _) attr _ => .attr x attr
  | .Call f args kws pos => viewCall f args kws pos
  | _ => .bad
noncomputable def isSetE : Expr → Bool
  | .Set .. => true
  | _ => false
noncomputable def isStar : Expr → Bool
  | .Starred .. => true
  | _ => false
inductive ViewS where
  | expr (e : Expr)
  | ret (e : Option Expr)
  | comp (sl : Bool) (x y z rg : Str) (n : Int) (test : Expr) (sc : Scope)
  | name (x : Str) (value : Expr)
  | tuple (ts : List Expr) (xs : List Str) (value : Expr)
  | attr (o attr : Str) (value : Expr)
  | aug (o attr : Str) (value : Expr)
  | ifs (t : Expr) (a b : List Stmt)
  | while (t : Expr) (body : List Stmt)
  | forR (x rg : Str) (n : Int) (body : List Stmt)
  | forT (ts : List Expr) (xs : List Str) (iter : Expr) (body : List Stmt)
  | raise (q : Str) (a b : Expr)
  | bad
noncomputable def isComp : Expr → Bool
  | .ListComp .. => true
  | .SetComp .. => true
  | .DictComp .. => true
  | _ => false
noncomputable def names? : List Expr → Option (List Str)
  | [] => some []
  | .Name x _ :: es => match names? es with
    | some xs => some (x :: xs)
    | none => none
  | _ => none
noncomputable def isAdd : Operator → Bool
  | .Add => true
  | _ => false
noncomputable def viewComp (sl : Bool) (x : Str) (elt : Expr) (gens : List Comprehension) (sc : Scope) : ViewS := match elt, gens with
  | .Name y _, [⟨.Name z _, .Call (.Name rg _) [.Constant (.int n) _ _] [] _, [test], 0⟩] => .comp sl x y z rg n test sc
  | _, _ => .bad
noncomputable def viewAssign (t : Expr) (value : Expr) : ViewS := match t with
  | .Name x xp => match value with
    | .ListComp elt gens sc cp => viewComp (Nat.beq xp.line cp.line) x elt gens sc
    | value => match isComp value with
      | true => .bad
      | false => .name x value
  | .Tuple ts _ _ => match isComp value, names? ts with
    | false, some xs => .tuple ts xs value
    | _, _ => .bad
  | .Attribute (.Name o _) attr _ => match isComp value with
    | true => .bad
    | false => .attr o attr value
  | _ => .bad
noncomputable def viewFor (t iter : Expr) (body : List Stmt) : ViewS := match t with
  | .Name x _ => match iter with
    | .Call (.Name rg _) [.Constant (.int n) _ _] [] _ => .forR x rg n body
    | _ => .bad
  | .Tuple ts _ _ => match isSetE iter, names? ts with
    | false, some xs => .forT ts xs iter body
    | _, _ => .bad
  | _ => .bad
noncomputable def viewRaise (e c : Option Expr) : ViewS := match c, e with
  | none, some (.Call (.Name q _) [a, b, .Constant (.str x) _ _] [] _) => match small x.cps.toList, isStar a, isStar b with
    | true, false, false => .raise q a b
    | _, _, _ => .bad
  | _, _ => .bad
noncomputable def viewS (s : Stmt) : ViewS := match s with
  | .Expr e _ => match isComp e with
    | true => .bad
    | false => .expr e
  | .Return e _ => .ret e
  | .Assign [t] value _ => viewAssign t value
  | .AugAssign (.Attribute (.Name o _) attr _) op value _ => match isAdd op with
    | true => .aug o attr value
    | false => .bad
  | .If t a b _ => .ifs t a b
  | .While t body [] _ => .while t body
  | .For t iter body [] _ => viewFor t iter body
  | .Raise e c _ => viewRaise e c
  | _ => .bad

/-! Names, stores, operations. -/
noncomputable def isDebug (x : Str) : Bool := eqS x ("__debug__" : Str) || eqS x ("__classdict__" : Str)
noncomputable def isLoc : Option NameKind → Bool
  | some .local => true
  | _ => false
noncomputable def isCell : NameKind → Bool
  | .cell => true
  | _ => false
noncomputable def isFree : NameKind → Bool
  | .free => true
  | _ => false
noncomputable def cellAt (led : List O) (k : Nat) : Option V := match nth led k with
  | some (.cell (some v)) => some v
  | _ => none
noncomputable def evCell (fr : FI) (st : St) (x : Str) : Option V := match lk fr.cells x with
  | some k => cellAt st.led k
  | none => none
noncomputable def evGlob (x : Str) : Option V := match lk globs x with
  | some v => some v
  | none => lk builts x
noncomputable def evName (fr : FI) (st : St) (x : Str) : Option V := match isDebug x with
  | true => none
  | false => match lk fr.names x with
    | some .local => lk st.loc x
    | some .cell => evCell fr st x
    | some .free => evCell fr st x
    | some .globalImplicit => evGlob x
    | _ => none
noncomputable def store (fr : FI) (st : St) (x : Str) (v : V) : Option St := match lk fr.names x with
  | some .local => some ⟨st.led, put x v st.loc⟩
  | some .cell => match lk fr.cells x with
    | some k => match nth st.led k with
      | some (.cell _) => some ⟨setL st.led k (.cell (some v)), st.loc⟩
      | _ => none
    | none => none
  | _ => none
noncomputable def storeAll (fr : FI) : List Str → List V → St → Option St
  | [], [], st => some st
  | x :: xs, v :: vs, st => match store fr st x v with
    | some st => storeAll fr xs vs st
    | none => none
  | _, _, _ => none
noncomputable def binLst (a b : Option O) (st : St) : Option (V × St) := match a, b with
  | some (.list xs), some (.list ys) => match small xs && small ys with
    | true => some (.loc (len st.led), ⟨app st.led [.list (app xs ys)], st.loc⟩)
    | false => none
  | _, _ => none
noncomputable def binop (op : Operator) (a b : V) (st : St) : Option (V × St) := match op with
  | .Add => match a, b with
    | .int x, .int y => some (.int (x + y), st)
    | .bytes x, .bytes y => match small x && small y with
      | true => some (.bytes (app x y), st)
      | false => none
    | .loc i, .loc j => binLst (nth st.led i) (nth st.led j) st
    | _, _ => none
  | .Sub => match a, b with
    | .int x, .int y => some (.int (x - y), st)
    | _, _ => none
  | _ => none
noncomputable def beqL : List UInt8 → List UInt8 → Bool
  | [], [] => true
  | x :: xs, y :: ys => (x == y) && beqL xs ys
  | _, _ => false
/-- == of two flat values -/
noncomputable def eqFlat (a b : V) : Option Bool := match a with
  | .int x => match b with
    | .int y => some (x == y)
    | .none => some false
    | _ => none
  | .str x => match b with
    | .str y => some (eqS x y)
    | _ => none
  | .bool x => match b with
    | .bool y => some (x == y)
    | _ => none
  | .bytes x => match b with
    | .bytes y => some (beqL x y)
    | _ => none
  | .none => match b with
    | .none => some true
    | .int _ => some false
    | _ => none
  | _ => none
/-- two tuples of two: == item by item -/
noncomputable def eqPair (xs ys : List V) : Option Bool := match xs, ys with
  | [a, b], [c, d] => match eqFlat a c with
    | some x => match eqFlat b d with
      | some y => some (x && y)
      | none => none
    | none => none
  | _, _ => none
noncomputable def eqTup (a b : Option O) : Option Bool := match a, b with
  | some (.tuple xs), some (.tuple ys) => eqPair xs ys
  | _, _ => none
noncomputable def eqV (st : St) (a b : V) : Option Bool := match a with
  | .loc i => match b with
    | .loc j => eqTup (nth st.led i) (nth st.led j)
    | _ => none
  | _ => eqFlat a b
noncomputable def inInts (i : Int) : List V → Option Bool
  | [] => some false
  | .int j :: xs => match inInts i xs with
    | some c => some (j == i || c)
    | none => none
  | _ => none
noncomputable def inStrs (i : Str) : List V → Option Bool
  | [] => some false
  | .str j :: xs => match inStrs i xs with
    | some c => some (eqS j i || c)
    | none => none
  | _ => none
noncomputable def inAt (a : V) (o : Option O) : Option Bool := match o with
  | some (.tuple ys) => match a with
    | .int i => inInts i ys
    | .str x => inStrs x ys
    | _ => none
  | some (.list ys) => match a with
    | .int i => inInts i ys
    | _ => none
  | _ => none
noncomputable def inV (st : St) (a b : V) : Option Bool := match b with
  | .loc j => inAt a (nth st.led j)
  | _ => none
noncomputable def isNone (a b : V) : Option Bool := match b with
  | .none => match a with
    | .none => some true
    | .int _ => some false
    | .loc _ => some false
    | _ => none
  | _ => none
noncomputable def notO : Option Bool → Option Bool
  | some b => some (!b)
  | none => none
noncomputable def twoInts (a b : V) (f : Int → Int → Bool) : Option Bool := match a, b with
  | .int x, .int y => some (f x y)
  | _, _ => none
noncomputable def cmp (op : CmpOp) (a b : V) (st : St) : Option Bool := match op with
  | .Lt => twoInts a b fun x y => decide (x < y)
  | .LtE => twoInts a b fun x y => decide (x ≤ y)
  | .Gt => twoInts a b fun x y => decide (x > y)
  | .GtE => twoInts a b fun x y => decide (x ≥ y)
  | .Eq => eqV st a b
  | .NotEq => notO (eqV st a b)
  | .Is => isNone a b
  | .IsNot => notO (isNone a b)
  | .In => inV st a b
  | .NotIn => notO (inV st a b)
noncomputable def truth : V → Option Bool
  | .bool b => some b
  | _ => none
noncomputable def fields (led : List O) (o : V) : Option (Nat × Loc) := match o with
  | .loc k => match nth led k with
    | some (.inst d) => match nth led d with
      | some (.dict fs) => some (d, fs)
      | _ => none
    | _ => none
  | _ => none
noncomputable def fieldNames : List (Str × Unit) := [("limit", ()), ("state", ()), ("pieces", ()), ("read_to", ()), ("highest", ()), ("final_size", ()), ("reset_code", ()), ("stop_code", ())]
noncomputable def getAt (st : St) (o : V) (x : Str) : Option V := match lk fieldNames x with
  | some _ => match fields st.led o with
    | some (_, fs) => lk fs x
    | none => none
  | none => none
noncomputable def setAt (st : St) (o : V) (x : Str) (v : V) : Option St := match lk fieldNames x with
  | some _ => match fields st.led o with
    | some (d, fs) => match Nat.ble (len fs) 50 with
      | true => some ⟨setL st.led d (.dict (put x v fs)), st.loc⟩
      | false => none
    | none => none
  | none => none
/-- a slice's bound, as CPython clamps it -/
noncomputable def clamp (n : Nat) (i : Int) : Nat := match i with
  | .ofNat k => match Nat.ble k n with
    | true => k
    | false => n
  | .negSucc k => n - (k + 1)
noncomputable def takeL {α : Type} (xs : List α) : Nat → List α := List.rec (fun _ => []) (fun x _ ih n => Nat.rec [] (fun m _ => x :: ih m) n) xs
theorem takeL_eq {α : Type} (xs : List α) : ∀ n : Nat, takeL xs n = xs.take n := by
  induction xs with
  | nil => intro n; simp [takeL]
  | cons x xs ih =>
    intro n
    cases n with
    | zero => rfl
    | succ m => show x :: takeL xs m = _; rw [ih]; rfl
noncomputable def dropL {α : Type} (xs : List α) : Nat → List α := List.rec (fun _ => []) (fun x t ih n => Nat.rec (x :: t) (fun m _ => ih m) n) xs
theorem dropL_eq {α : Type} (xs : List α) : ∀ n : Nat, dropL xs n = xs.drop n := by
  induction xs with
  | nil => intro n; simp [dropL]
  | cons x xs ih =>
    intro n
    cases n with
    | zero => rfl
    | succ m => show dropL xs m = _; rw [ih]; rfl
noncomputable def sliceOf (b : List UInt8) (lo hi : V) : Option (List UInt8) := match lo with
  | .none => match hi with
    | .int j => some (takeL b (clamp (len b) j))
    | _ => none
  | .int i => match hi with
    | .none => some (dropL b (clamp (len b) i))
    | .int j => some (dropL (takeL b (clamp (len b) j)) (clamp (len b) i))
    | _ => none
  | _ => none
noncomputable def itemsOf (o : Option O) : Option (List V) := match o with
  | some (.tuple xs) => some xs
  | _ => none
noncomputable def items (led : List O) (v : V) : Option (List V) := match v with
  | .loc k => itemsOf (nth led k)
  | _ => none
/-- (start, octets) told by its pair's object -/
noncomputable def pairOf (led : List O) (v : V) : Option (Int × List UInt8) := match items led v with
  | some [.int a, .bytes b] => match small b with
    | true => some (a, b)
    | false => none
  | _ => none
noncomputable def coveredGo (old : List O) : List V → List O → List V → Option (V × List O)
  | [], now, acc => some (.loc (len now), app now [.list acc])
  | x :: xs, now, acc => match pairOf old x with
    | some (a, b) => coveredGo old xs (app now [.tuple [.int a, .int (a + Int.ofNat (len b))]]) (app acc [.loc (len now)])
    | none => none
noncomputable def sorted2 (led : List O) (xs : List V) : Option (List V) := match xs with
  | [x] => match pairOf led x with
    | some _ => some [x]
    | none => none
  | [x, y] => match pairOf led x, pairOf led y with
    | some (a, _), some (c, _) => match a == c with
      | true => none
      | false => match decide (c < a) with
        | true => some [y, x]
        | false => some [x, y]
    | _, _ => none
  | _ => none
noncomputable def cellsGo (fr : FI) : List (Str × NameKind) → List (Str × Nat) → Option (List (Str × Nat))
  | [], acc => some acc
  | p :: ps, acc => match isFree p.2 with
    | true => match lk fr.cells p.1 with
      | some k => cellsGo fr ps ((p.1, k) :: acc)
      | none => none
    | false => cellsGo fr ps acc
noncomputable def lamCells (fr : FI) (sc : Scope) : Option (List (Str × Nat)) := cellsGo fr sc.names []
noncomputable def okScope (sc : Scope) : Bool := !sc.isGenerator && !sc.isCoroutine && (match sc.kind with | .function => true | _ => false) && sc.names.all fun p => !isCell p.2
noncomputable def noPars : Arguments → Bool
  | ⟨[], [], none, [], [], none, []⟩ => true
  | _ => false
noncomputable def lead (a : Int) (s : Bool) : Bool := decide (0 ≤ a) && decide (a ≤ 5) && (!s || decide (a < 2))
/-- a helper of the law, told by its contract -/
noncomputable def prim191 : List V → Bool
  | [.int a, .bool s, .any m, .any k, .anyb] => lead a s && (Nat.beq m 5 && Nat.beq k 5)
  | _ => false
noncomputable def prim3 (n : Nat) : List V → Bool
  | [.int a, .bool s, .any m] => lead a s && Nat.beq m n
  | _ => false
noncomputable def prim (a : Nat) (args : List V) : Bool := match Nat.beq a 191 with
  | true => prim191 args
  | false => match Nat.beq a 198 with
    | true => prim3 8 args
    | false => match Nat.beq a 205 with
      | true => prim3 6 args
      | false => false
noncomputable def isTab (l c : Nat) (q : Str) (o : Option O) : Bool := match o with
  | some (.tab l' c' q') => Nat.beq l' l && Nat.beq c' c && eqS q' q
  | _ => false
noncomputable def qs : Str := "_law_stream_right.<locals>.<lambda>"
noncomputable def qr : Str := "_law_reset_right.<locals>.<lambda>"
noncomputable def ql : Str := "law.<locals>.<lambda>"
/-- the two tables that the helpers' lambdas use -/
noncomputable def tabsIn (o o' : Option O) : Bool := isTab 174 21 qs o && isTab 195 21 qr o'
noncomputable def cellNames : List (Str × NameKind) → List Str
  | [] => []
  | p :: ps => match isCell p.2 with
    | true => p.1 :: cellNames ps
    | false => cellNames ps
noncomputable def number : List Str → Nat → List (Str × Nat)
  | [], _ => []
  | x :: xs, n => (x, n) :: number xs (n + 1)
noncomputable def bindLoc (names : List (Str × NameKind)) : Loc → Loc
  | [] => []
  | p :: ps => match isLoc (lk names p.1) with
    | true => p :: bindLoc names ps
    | false => bindLoc names ps
noncomputable def newCells (bs : Loc) : List Str → List O
  | [] => []
  | x :: xs => .cell (lk bs x) :: newCells bs xs
noncomputable def zipP : List Str → List V → Option Loc
  | [], [] => some []
  | x :: xs, v :: vs => match zipP xs vs with
    | some l => some ((x, v) :: l)
    | none => none
  | _, _ => none

section
variable (r : Rec)
noncomputable def evV (fr : FI) (e : Expr) (st : St) : Option (V × St) := match r.ev fr e st with
  | some (.ok v, st') => some (v, st')
  | _ => none
noncomputable def evs (fr : FI) (es : List Expr) : St → Option (List V × St) := List.rec (fun st => some ([], st)) (fun e _ ih st => match isStar e with
  | true => none
  | false => match evV r fr e st with
    | some (v, st) => match ih st with
      | some (vs, st) => some (v :: vs, st)
      | none => none
    | none => none) es
noncomputable def part (fr : FI) (e : Option Expr) (st : St) : Option (V × St) := match e with
  | none => some (.none, st)
  | some e => evV r fr e st
noncomputable def isAnd : BoolOp → Bool
  | .And => true
  | .Or => false
/-- the value of `and`, `or`: the operands from the second on go on where the first says so -/
noncomputable def boolV (fr : FI) (op : BoolOp) (es : List Expr) : St → Option (V × St) := List.rec (fun _ => none) (fun e rest ih st => match evV r fr e st with
  | some (v, st) => match rest with
    | [] => some (v, st)
    | _ :: _ => match truth v with
      | some b => match b == isAnd op with
        | true => ih st
        | false => some (v, st)
      | none => none
  | none => none) es
noncomputable def boolT (fr : FI) (op : BoolOp) (es : List Expr) : St → Option (Bool × St) := List.rec (fun st => some (isAnd op, st)) (fun e _ ih st => match r.tst fr e st with
  | some (b, st) => match b == isAnd op with
    | true => ih st
    | false => some (b, st)
  | none => none) es
/-- a call of a def of the text -/
noncomputable def callFn (F : Fn) (args : List V) (led : List O) : Option (Res × List O) := match zipP F.params args with
  | some bs => match r.exs ⟨F.qual, F.names, (number (cellNames F.names) (len led)).reverse, F.tab, true⟩ F.body ⟨app led (newCells bs (cellNames F.names)), bindLoc F.names bs⟩ with
    | some (.next, st) => some (.ok .none, st.led)
    | some (.ret v, st) => some (.ok v, st.led)
    | some (.ex c f, st) => some (.ex c f, st.led)
    | none => none
  | none => none
noncomputable def bindRes (x : Option (Res × List O)) (loc : Loc) : Option (Res × St) := match x with
  | some (v, led) => some (v, ⟨led, loc⟩)
  | none => none
noncomputable def callLst (o : Option O) (st : St) : Option (Res × St) := match o with
  | some (.list xs) => match small xs with
    | true => some (.ok (.loc (len st.led)), ⟨app st.led [.list xs], st.loc⟩)
    | false => none
  | _ => none
noncomputable def callSorted (o : Option O) (st : St) : Option (Res × St) := match o with
  | some (.list xs) => match sorted2 st.led xs with
    | some ys => some (.ok (.loc (len st.led)), ⟨app st.led [.list ys], st.loc⟩)
    | none => none
  | _ => none
noncomputable def callCovered (o : Option O) (st : St) : Option (Res × St) := match o with
  | some (.list xs) => match small xs with
    | true => match coveredGo st.led xs st.led [] with
      | some (v, led) => some (.ok v, ⟨led, st.loc⟩)
      | none => none
    | false => none
  | _ => none
noncomputable def callNext (k : Nat) (m : Int) (o : Option O) (st : St) : Option (Res × St) := match o with
  | some (.pen c) => match decide (2 ≤ m) && decide (m ≤ 8) && Nat.ble c 1000 with
    | true => match r.orc (c + 1) m with
      | some v => some (.ok (.int v), ⟨setL st.led k (.pen (c + 1)), st.loc⟩)
      | none => some (.ok (.any m.toNat), ⟨setL st.led k (.pen (c + 1)), st.loc⟩)
    | false => none
  | _ => none
noncomputable def callBI (b : BI) (args : List V) (st : St) : Option (Res × St) := match b with
  | .len => match args with
    | [.bytes b] => match small b with
      | true => some (.ok (.int (Int.ofNat (len b))), st)
      | false => none
    | _ => none
  | .max => match args with
    | [.int a, .int b] => some (.ok (.int (if a < b then b else a)), st)
    | _ => none
  | .min => match args with
    | [.int a, .int b] => some (.ok (.int (if b < a then b else a)), st)
    | _ => none
  | .bytes => match args with
    | [.bytes b] => match small b with
      | true => some (.ok (.bytes b), st)
      | false => none
    | _ => none
  | .list => match args with
    | [.loc k] => callLst (nth st.led k) st
    | _ => none
  | .sorted => match args with
    | [.loc k] => callSorted (nth st.led k) st
    | _ => none
  | .range => none
/-- RecvPart(..) -/
noncomputable def callNew (args : List V) (st : St) : Option (Res × St) := match fnAt 74 with
  | some F => match F.tab with
    | none => match callFn r F (.loc (len st.led + 1) :: args) (app st.led [.dict [], .inst (len st.led)]) with
      | some (.ok .none, led) => some (.ok (.loc (len st.led + 1)), ⟨led, st.loc⟩)
      | _ => none
    | some _ => none
  | none => none
noncomputable def callDef (a : Nat) (args : List V) (st : St) : Option (Res × St) := match r.pr && prim a args && tabsIn (nth st.led 1) (nth st.led 2) with
  | true => some (.ok (.bool true), st)
  | false => match fnAt a with
    | some F => match F.tab with
      | none => bindRes (callFn r F args st.led) st.loc
      | some _ => none
    | none => none
noncomputable def callTop (a : Nat) (args : List V) (st : St) : Option (Res × St) := match a with
  | 147 => callNew r args st
  | 53 => match args with
    | [.loc k] => callCovered (nth st.led k) st
    | _ => none
  | 165 => match args with
    | [.loc k, .int m] => callNext r k m (nth st.led k) st
    | _ => none
  | a => callDef r a args st
noncomputable def callV (f : V) (args : List V) (st : St) : Option (Res × St) := match f with
  | .bi b => callBI b args st
  | .fn a => callTop r a args st
  | _ => none
inductive M2 where
  | fn (a : Nat)
  | app (k : Nat)
noncomputable def methIn (name : Str) (fs : Loc) : Option M2 := match lk fs name with
  | some _ => none
  | none => match lk methods name with
    | some a => some (.fn a)
    | none => none
noncomputable def appIn (name : Str) (k : Nat) (o : Option O) : Option M2 := match o with
  | some (.list _) => match eqS name ("append" : Str) with
    | true => some (.app k)
    | false => none
  | _ => none
noncomputable def methOf (led : List O) (o : V) (name : Str) : Option M2 := match fields led o with
  | some (_, fs) => methIn name fs
  | none => match o with
    | .loc k => appIn name k (nth led k)
    | _ => none
noncomputable def callMethod (a : Nat) (o : V) (args : List V) (st : St) : Option (Res × St) := match fnAt a with
  | some F => match F.tab with
    | none => bindRes (callFn r F (o :: args) st.led) st.loc
    | some _ => none
  | none => none
noncomputable def callAppend (k : Nat) (args : List V) (o : Option O) (st : St) : Option (Res × St) := match o with
  | some (.list xs) => match args with
    | [v] => match small xs with
      | true => some (.ok .none, ⟨setL st.led k (.list (app xs [v])), st.loc⟩)
      | false => none
    | _ => none
  | _ => none
noncomputable def callMeth (m : M2) (o : V) (args : List V) (st : St) : Option (Res × St) := match m with
  | .fn a => callMethod r a o args st
  | .app k => callAppend k args (nth st.led k) st

noncomputable def evConst (c : Const) (st : St) : Option (Res × St) := match c with
  | .int i => some (.ok (.int i), st)
  | .str x => some (.ok (.str x), st)
  | .bytes b => some (.ok (.bytes b), st)
  | .bool b => some (.ok (.bool b), st)
  | .none => some (.ok .none, st)
  | _ => none
noncomputable def okV (x : Option (V × St)) : Option (Res × St) := match x with
  | some (v, st) => some (.ok v, st)
  | none => none
noncomputable def evBin (fr : FI) (l : Expr) (op : Operator) (rr : Expr) (st : St) : Option (Res × St) := match evV r fr l st with
  | some (a, st) => match evV r fr rr st with
    | some (b, st) => okV (binop op a b st)
    | none => none
  | none => none
noncomputable def isNot : UnaryOp → Bool
  | .Not => true
  | _ => false
noncomputable def evUn (fr : FI) (op : UnaryOp) (x : Expr) (st : St) : Option (Res × St) := match isNot op with
  | true => match evV r fr x st with
    | some (v, st) => match truth v with
      | some b => some (.ok (.bool (!b)), st)
      | none => none
    | none => none
  | false => none
noncomputable def isEq : CmpOp → Bool
  | .Eq => true
  | _ => false
/-- one comparison's answer as a value: an unknown int against an int is an unknown bool -/
noncomputable def cmpV (op : CmpOp) (a b : V) (st : St) : Option V := match a with
  | .any _ => match isEq op, b with
    | true, .int _ => some .anyb
    | _, _ => none
  | _ => match cmp op a b st with
    | some c => some (.bool c)
    | none => none
noncomputable def evCmp (fr : FI) (l : Expr) (ops : List CmpOp) (rs : List Expr) (st : St) : Option (Res × St) := match ops, rs with
  | [op], [rr] => match isSetE rr with
    | true => none
    | false => match evV r fr l st with
      | some (a, st) => match evV r fr rr st with
        | some (b, st) => match cmpV op a b st with
          | some v => some (.ok v, st)
          | none => none
        | none => none
      | none => none
  | _, _ => none
noncomputable def evIf (fr : FI) (t a b : Expr) (st : St) : Option (Res × St) := match r.tst fr t st with
  | some (c, st) => match c with
    | true => okV (evV r fr a st)
    | false => okV (evV r fr b st)
  | none => none
noncomputable def evTup (fr : FI) (es : List Expr) (st : St) : Option (Res × St) := match evs r fr es st with
  | some (vs, st) => match small vs with
    | true => some (.ok (.loc (len st.led)), ⟨app st.led [.tuple vs], st.loc⟩)
    | false => none
  | none => none
noncomputable def evLst (fr : FI) (es : List Expr) (st : St) : Option (Res × St) := match evs r fr es st with
  | some (vs, st) => match small vs with
    | true => some (.ok (.loc (len st.led)), ⟨app st.led [.list vs], st.loc⟩)
    | false => none
  | none => none
noncomputable def evSlice (fr : FI) (value : Expr) (lo hi : Option Expr) (st : St) : Option (Res × St) := match evV r fr value st with
  | some (.bytes b, st) => match part r fr lo st with
    | some (l, st) => match part r fr hi st with
      | some (h, st) => match small b with
        | true => match sliceOf b l h with
          | some c => some (.ok (.bytes c), st)
          | none => none
        | false => none
      | none => none
    | none => none
  | _ => none
noncomputable def idxAt (i : Int) (o : Option O) : Option V := match o with
  | some (.list xs) => match decide (0 ≤ i) && decide (i < 1000) with
    | true => nth xs i.toNat
    | false => none
  | _ => none
noncomputable def evIdx (fr : FI) (value slice : Expr) (st : St) : Option (Res × St) := match evV r fr value st with
  | some (.loc k, st) => match evV r fr slice st with
    | some (.int i, st) => match idxAt i (nth st.led k) with
      | some v => some (.ok v, st)
      | none => none
    | _ => none
  | _ => none
noncomputable def evAttr (fr : FI) (x : Str) (attr : Str) (st : St) : Option (Res × St) := match evName fr st x with
  | some ov => match getAt st ov attr with
    | some v => some (.ok v, st)
    | none => none
  | none => none
noncomputable def toldOk (fr : FI) (ps : Arguments) (sc : Scope) (pos : Pos) (l c : Nat) (q : Str) : Bool := fr.fn && Nat.beq l pos.line && Nat.beq c pos.col && noPars ps && okScope sc && eqS q (fr.qual ++ (".<locals>." : Str) ++ ("<lambda>" : Str))
noncomputable def toldRun (body : Expr) (sc : Scope) (q : Str) (cells : List (Str × Nat)) (st : St) : Option (Res × St) := match r.ev ⟨q, sc.names, cells, none, true⟩ body ⟨st.led, []⟩ with
  | some (.ok v, st') => some (.ok v, ⟨st'.led, st.loc⟩)
  | some (.ex c f, st') => some (.ok (.loc (len st'.led)), ⟨app st'.led [.tuple [.int c, .int f]], st.loc⟩)
  | none => none
/-- `_law_told(lambda: body)` -/
noncomputable def evTold (fr : FI) (f : Str) (ps : Arguments) (body : Expr) (sc : Scope) (pos : Pos) (st : St) : Option (Res × St) :=
  match evName fr st f with
  | some (.fn 179) => match fr.tab with
    | some t => match lamCells fr sc with
      | some cells => match nth st.led t with
        | some (.tab l c q) => match toldOk fr ps sc pos l c q with
          | true => toldRun r body sc q cells st
          | false => none
        | _ => none
      | none => none
    | none => none
  | _ => none
noncomputable def evFn (fr : FI) (f : Str) (args : List Expr) (st : St) : Option (Res × St) := match fr.fn with
  | false => none
  | true => match evName fr st f with
    | some fv => match evs r fr args st with
      | some (vs, st) => callV r fv vs st
      | none => none
    | none => none
noncomputable def evMeth (fr : FI) (o name : Str) (args : List Expr) (st : St) : Option (Res × St) := match fr.fn with
  | false => none
  | true => match evName fr st o with
    | some ov => match methOf st.led ov name with
      | some m => match evs r fr args st with
        | some (vs, st) => callMeth r m ov vs st
        | none => none
      | none => none
    | none => none
noncomputable def evNm (fr : FI) (x : Str) (st : St) : Option (Res × St) := match evName fr st x with
  | some v => some (.ok v, st)
  | none => none
noncomputable def ev1 (fr : FI) (e : Expr) (st : St) : Option (Res × St) := match view e with
  | .const c => evConst c st
  | .name x => evNm fr x st
  | .bin l op rr => evBin r fr l op rr st
  | .un op x => evUn r fr op x st
  | .bool op es => okV (boolV r fr op es st)
  | .cmp l ops rs => evCmp r fr l ops rs st
  | .ifx t a b => evIf r fr t a b st
  | .tup es => evTup r fr es st
  | .lst es => evLst r fr es st
  | .slice value lo hi => evSlice r fr value lo hi st
  | .idx value slice => evIdx r fr value slice st
  | .attr o attr => evAttr fr o attr st
  | .told f ps body sc pos => evTold r fr f ps body sc pos st
  | .call f args => evFn r fr f args st
  | .meth o name args => evMeth r fr o name args st
  | .bad => none

noncomputable def tsPlain (fr : FI) (e : Expr) (st : St) : Option (Bool × St) := match evV r fr e st with
  | some (v, st) => match truth v with
    | some b => some (b, st)
    | none => none
  | none => none
noncomputable def tsNot (fr : FI) (op : UnaryOp) (x : Expr) (st : St) : Option (Bool × St) := match isNot op with
  | true => match r.tst fr x st with
    | some (b, st) => some (!b, st)
    | none => none
  | false => none
noncomputable def withSt (x : Option Bool) (st : St) : Option (Bool × St) := match x with
  | some b => some (b, st)
  | none => none
noncomputable def tsOne (fr : FI) (l : Expr) (op : CmpOp) (rr : Expr) (st : St) : Option (Bool × St) := match evV r fr l st with
  | some (a, st) => match evV r fr rr st with
    | some (b, st) => withSt (cmp op a b st) st
    | none => none
  | none => none
noncomputable def tsTwo (fr : FI) (l : Expr) (op op' : CmpOp) (rr r' : Expr) (st : St) : Option (Bool × St) := match evV r fr l st with
  | some (a, st) => match evV r fr rr st with
    | some (b, st) => match cmp op a b st with
      | some true => match evV r fr r' st with
        | some (c, st) => withSt (cmp op' b c st) st
        | none => none
      | some false => some (false, st)
      | none => none
    | none => none
  | none => none
noncomputable def tsCmp (fr : FI) (l : Expr) (ops : List CmpOp) (rs : List Expr) (st : St) : Option (Bool × St) := match ops, rs with
  | [op], [rr] => match isSetE rr with
    | true => none
    | false => tsOne r fr l op rr st
  | [op, op'], [rr, r'] => match isSetE r' with
    | true => none
    | false => tsTwo r fr l op op' rr r' st
  | _, _ => none
noncomputable def tst1 (fr : FI) (e : Expr) (st : St) : Option (Bool × St) := match view e with
  | .un op x => tsNot r fr op x st
  | .bool op es => boolT r fr op es st
  | .cmp l ops rs => tsCmp r fr l ops rs st
  | .name _ => tsPlain r fr e st
  | .call .. => tsPlain r fr e st
  | .meth .. => tsPlain r fr e st
  | _ => none

/-- a list comprehension over range(n), one name, one test, a name as its element -/
noncomputable def compGo (fr : FI) (x y : Str) (test : Expr) : Nat → Nat → List O → List V → Option (List V × List O)
  | 0, _, led, acc => some (acc, led)
  | n + 1, i, led, acc => match r.tst fr test ⟨led, [(x, .int i)]⟩ with
    | some (b, st) => match b with
      | true => match evName fr st y with
        | some v => compGo fr x y test n (i + 1) st.led (app acc [v])
        | none => none
      | false => compGo fr x y test n (i + 1) st.led acc
    | none => none
noncomputable def lstItems (o : Option O) : Option (List V) := match o with
  | some (.list xs) => some xs
  | _ => none
/-- a for over a list of tuples: the list is read anew at each turn -/
noncomputable def forGo (fr : FI) (k : Nat) (xs : List Str) (body : List Stmt) : Nat → Nat → St → Option (Flo × St)
  | 0, _, _ => none
  | n + 1, i, st => match lstItems (nth st.led k) with
    | some vs => match nth vs i with
      | some v => match items st.led v with
        | some its => match storeAll fr xs its st with
          | some st => match r.exs fr body st with
            | some (.next, st) => forGo fr k xs body n (i + 1) st
            | some (.ret v, st) => some (.ret v, st)
            | _ => none
          | none => none
        | none => none
      | none => some (.next, st)
    | none => none
noncomputable def forRange (fr : FI) (x : Str) (body : List Stmt) : Nat → Nat → St → Option (Flo × St)
  | 0, _, st => some (.next, st)
  | n + 1, i, st => match store fr st x (.int i) with
    | some st => match r.exs fr body st with
      | some (.next, st) => forRange fr x body n (i + 1) st
      | some (.ret v, st) => some (.ret v, st)
      | _ => none
    | none => none
noncomputable def whileGo (fr : FI) (test : Expr) (body : List Stmt) : Nat → St → Option (Flo × St)
  | 0, _ => none
  | n + 1, st => match r.tst fr test st with
    | some (true, st) => match r.exs fr body st with
      | some (.next, st) => whileGo fr test body n st
      | _ => none
    | some (false, st) => some (.next, st)
    | none => none
noncomputable def floNext (x : Option St) : Option (Flo × St) := match x with
  | some st => some (.next, st)
  | none => none
noncomputable def exExpr (fr : FI) (e : Expr) (st : St) : Option (Flo × St) := match r.ev fr e st with
  | some (.ok _, st) => some (.next, st)
  | some (.ex c f, st) => some (.ex c f, st)
  | none => none
noncomputable def exRet (fr : FI) (e : Option Expr) (st : St) : Option (Flo × St) := match e with
  | some e => match r.ev fr e st with
    | some (.ok v, st) => some (.ret v, st)
    | some (.ex c f, st) => some (.ex c f, st)
    | none => none
  | none => none
noncomputable def compOk (fr : FI) (x y z : Str) (sc : Scope) (n : Int) : Bool := eqS y z && !isDebug y && okScope sc && isLoc (lk sc.names z) && decide (0 ≤ n) && decide (n ≤ 100) && isLoc (lk fr.names x) &&
  (sc.names.all fun p => !(eqS p.1 x && (isLoc (some p.2) || isCell p.2))) && (sc.names.all fun p => !isLoc (some p.2) || isLoc (lk sc.names p.1))
noncomputable def isCellO : Option NameKind → Bool
  | some .cell => true
  | _ => false
/-- a comprehension's names: what is free there and a cell here is a cell -/
noncomputable def relabelN (names : List (Str × NameKind)) : List (Str × NameKind) → List (Str × NameKind)
  | [] => []
  | p :: ps => (match isFree p.2 && isCellO (lk names p.1) with
    | true => (p.1, .cell)
    | false => p) :: relabelN names ps
/-- `x = [y for z in range(n) if test]` -/
noncomputable def exComp (fr : FI) (sl : Bool) (x y z rg : Str) (n : Int) (test : Expr) (sc : Scope) (st : St) : Option (Flo × St) := match sl && compOk fr x y z sc n with
  | true => match evName fr st rg with
    | some (.bi .range) => match lamCells fr sc with
      | some cells => match compGo r ⟨fr.qual, relabelN fr.names sc.names, cells, none, false⟩ z y test n.toNat 0 st.led [] with
        | some (vs, led) => floNext (store fr ⟨app led [.list vs], st.loc⟩ x (.loc (len led)))
        | none => none
      | none => none
    | _ => none
  | false => none
noncomputable def exName (fr : FI) (x : Str) (value : Expr) (st : St) : Option (Flo × St) := match evV r fr value st with
  | some (v, st) => floNext (store fr st x v)
  | none => none
noncomputable def loose : Expr → Bool
  | .Call .. => true
  | .List .. => true
  | .BinOp (.Name x _) _ _ _ => !isDebug x
  | _ => false
noncomputable def lineOf : Expr → Nat
  | .Name _ p => p.line
  | _ => 0
noncomputable def headLine : List Expr → Nat
  | [] => 0
  | t :: _ => lineOf t
noncomputable def allLoc (names : List (Str × NameKind)) : List Str → Bool
  | [] => true
  | x :: xs => match isLoc (lk names x) with
    | true => allLoc names xs
    | false => false
noncomputable def sameLines (l : Nat) : List Expr → Bool
  | [] => true
  | t :: ts => match Nat.beq (lineOf t) l with
    | true => sameLines l ts
    | false => false
noncomputable def twoThree : List Expr → List Expr → Bool
  | [_, _], [_, _] => true
  | [_, _, _], [_, _, _] => true
  | _, _ => false
noncomputable def apart : List Str → Bool
  | [x, y] => !eqS x y
  | [x, y, z] => !eqS x y && !eqS x z && !eqS y z
  | _ => false
/-- whether a tuple display is stored from its end on -/
noncomputable def swapOf (fr : FI) (ts : List Expr) (xs : List Str) (value : Expr) : Option Bool := match value with
  | .Tuple vs _ _ => match allLoc fr.names xs with
    | false => some false
    | true => match twoThree ts vs && apart xs && sameLines (headLine ts) ts && vs.any loose && !vs.any isStar with
      | true => some true
      | false => none
  | _ => some false
noncomputable def exTuple (fr : FI) (ts : List Expr) (xs : List Str) (value : Expr) (st : St) : Option (Flo × St) := match evV r fr value st with
  | some (v, st) => match items st.led v with
    | some its => match swapOf fr ts xs value with
      | some true => floNext (storeAll fr xs.reverse its.reverse st)
      | some false => floNext (storeAll fr xs its st)
      | none => none
    | none => none
  | none => none
noncomputable def exAttr (fr : FI) (o : Str) (attr : Str) (value : Expr) (st : St) : Option (Flo × St) := match evV r fr value st with
  | some (v, st) => match evName fr st o with
    | some ov => floNext (setAt st ov attr v)
    | none => none
  | none => none
noncomputable def exAug (fr : FI) (o : Str) (attr : Str) (value : Expr) (st : St) : Option (Flo × St) := match evName fr st o with
  | some ov => match getAt st ov attr with
    | some (.int old) => match evV r fr value st with
      | some (.int v, st) => floNext (setAt st ov attr (.int (old + v)))
      | _ => none
    | _ => none
  | none => none
noncomputable def exIf (fr : FI) (t : Expr) (a b : List Stmt) (st : St) : Option (Flo × St) := match r.tst fr t st with
  | some (c, st) => match c with
    | true => r.exs fr a st
    | false => r.exs fr b st
  | none => none
noncomputable def exForR (fr : FI) (x rg : Str) (n : Int) (body : List Stmt) (st : St) : Option (Flo × St) := match evName fr st rg with
  | some (.bi .range) => match decide (0 ≤ n) && decide (n ≤ 100) with
    | true => forRange r fr x body n.toNat 0 st
    | false => none
  | _ => none
noncomputable def exForT (fr : FI) (xs : List Str) (iter : Expr) (body : List Stmt) (st : St) : Option (Flo × St) := match evV r fr iter st with
  | some (.loc k, st) => forGo r fr k xs body 12 0 st
  | _ => none
/-- `raise QuicError(a, b, 'text')` -/
noncomputable def exRaise (fr : FI) (q : Str) (a b : Expr) (st : St) : Option (Flo × St) := match fr.fn with
  | true => match evName fr st q with
    | some (.fn 31) => match evV r fr a st with
      | some (.int c, st) => match evV r fr b st with
        | some (.int f, st) => match Nat.ble c.natAbs 1000 with
          | true => some (.ex c f, st)
          | false => none
        | _ => none
      | _ => none
    | _ => none
  | false => none
noncomputable def ex1 (fr : FI) (s : Stmt) (st : St) : Option (Flo × St) := match viewS s with
  | .expr e => exExpr r fr e st
  | .ret e => exRet r fr e st
  | .comp sl x y z rg n test sc => exComp r fr sl x y z rg n test sc st
  | .name x value => exName r fr x value st
  | .tuple ts xs value => exTuple r fr ts xs value st
  | .attr o attr value => exAttr r fr o attr value st
  | .aug o attr value => exAug r fr o attr value st
  | .ifs t a b => exIf r fr t a b st
  | .while t body => whileGo r fr t body 20 st
  | .forR x rg n body => exForR r fr x rg n body st
  | .forT _ xs iter body => exForT r fr xs iter body st
  | .raise q a b => exRaise r fr q a b st
  | .bad => none
noncomputable def exs1 (fr : FI) (ss : List Stmt) : St → Option (Flo × St) := List.rec (fun st => some (.next, st)) (fun s _ ih st => match ex1 r fr s st with
  | some (f, st) => match f with
    | .next => ih st
    | .ret v => some (.ret v, st)
    | .ex c f => some (.ex c f, st)
  | none => none) ss
end

noncomputable def bot (orc : Nat → Int → Option Int) (pr : Bool) : Rec := ⟨orc, pr, fun _ _ _ => none, fun _ _ _ => none, fun _ _ _ => none⟩
noncomputable def step (r : Rec) : Rec := ⟨r.orc, r.pr, ev1 r, tst1 r, exs1 r⟩
noncomputable def run (orc : Nat → Int → Option Int) (pr : Bool) (n : Nat) : Rec := Nat.rec (bot orc pr) (fun _ ih => step ih) n

/-- line and column of a def's lambda, read off the text -/
noncomputable def tabS : O := .tab 174 21 qs
noncomputable def tabR : O := .tab 195 21 qr
noncomputable def tabL : O := .tab 228 21 ql
/-- the upper part of a run: there the law's helpers are told by their contract -/
noncomputable def runL (orc : Nat → Int → Option Int) (n : Nat) : Rec := Nat.rec { run orc false 45 with pr := true } (fun _ ih => step ih) n
noncomputable def noOrc : Nat → Int → Option Int := fun _ _ => none
noncomputable def isTrueR : Option (Res × List O) → Bool
  | some (.ok (.bool true), _) => true
  | _ => false
/-- a helper's own run -/
noncomputable def helper (a : Nat) (args : List V) (led : List O) : Bool := match fnAt a with
  | some F => isTrueR (callFn (run noOrc false 40) F args led)
  | none => false
theorem prim_inv {a : Nat} {vs : List V} (h : prim a vs = true) : (a = 191 ∧ prim191 vs = true) ∨ (a = 198 ∧ prim3 8 vs = true) ∨ (a = 205 ∧ prim3 6 vs = true) := by
  unfold prim at h
  split at h
  · exact .inl ⟨Nat.eq_of_beq_eq_true (by assumption), h⟩
  · split at h
    · exact .inr (.inl ⟨Nat.eq_of_beq_eq_true (by assumption), h⟩)
    · split at h
      · exact .inr (.inr ⟨Nat.eq_of_beq_eq_true (by assumption), h⟩)
      · cases h
theorem prim_F {a : Nat} {vs : List V} (h : prim a vs = true) : ∃ F, fnAt a = some F := by
  rcases prim_inv h with ⟨rfl, _⟩ | ⟨rfl, _⟩ | ⟨rfl, _⟩
  · exact ⟨_, rfl⟩
  · exact ⟨_, rfl⟩
  · exact ⟨_, rfl⟩
end Mine
end

section
open PySem PySem.W PyProof.Rows PySem.Calls
set_option autoImplicit false
namespace Mine

/-! ### Two lists side by side -/
inductive A2 {α β : Type} (R : α → β → Prop) : List α → List β → Prop
  | nil : A2 R [] []
  | cons {a : α} {b : β} {l : List α} {m : List β} : R a b → A2 R l m → A2 R (a :: l) (b :: m)
namespace A2
variable {α β : Type} {R S : α → β → Prop} {l l' : List α} {m m' : List β}
theorem mono (h : A2 R l m) (k : ∀ a b, R a b → S a b) : A2 S l m := by
  induction h with
  | nil => exact .nil
  | cons r _ ih => exact .cons (k _ _ r) ih
theorem length (h : A2 R l m) : l.length = m.length := by
  induction h with
  | nil => rfl
  | cons _ _ ih => rw [List.length_cons, List.length_cons, ih]
theorem append (h : A2 R l m) (h' : A2 R l' m') : A2 R (l ++ l') (m ++ m') := by
  induction h with
  | nil => exact h'
  | cons r _ ih => exact .cons r ih
theorem left (h : A2 R l m) : ∀ {i : Nat} {a : α}, l[i]? = some a → ∃ b, m[i]? = some b ∧ R a b := by
  induction h with
  | nil => intro i a e; cases e
  | cons r _ ih =>
    intro i a e
    cases i with
    | zero => cases e; exact ⟨_, rfl, r⟩
    | succ i => exact ih e
theorem left_none (h : A2 R l m) : ∀ {i : Nat}, l[i]? = none → m[i]? = none := by
  induction h with
  | nil => intro i _; rfl
  | cons r _ ih =>
    intro i e
    cases i with
    | zero => cases e
    | succ i => exact ih e
theorem set (h : A2 R l m) : ∀ {i : Nat} {a : α} {b : β}, R a b → A2 R (l.set i a) (m.set i b) := by
  induction h with
  | nil => intro i a b _; exact .nil
  | cons r t ih =>
    intro i a b q
    cases i with
    | zero => exact .cons q t
    | succ i => exact .cons r (ih q)
theorem nil_left (h : A2 R [] m) : m = [] := by cases h; rfl
theorem cons_left {a : α} (h : A2 R (a :: l) m) : ∃ b m', m = b :: m' ∧ R a b ∧ A2 R l m' := by
  cases h with
  | cons r t => exact ⟨_, _, rfl, r, t⟩
theorem reverse (h : A2 R l m) : A2 R l.reverse m.reverse := by
  induction h with
  | nil => exact .nil
  | cons r _ ih =>
    rw [List.reverse_cons, List.reverse_cons]
    exact ih.append (.cons r .nil)
end A2

theorem lk_lookup {α : Type} (l : List (Str × α)) (x : Str) : lk l x = l.lookup x := by
  induction l with
  | nil => rfl
  | cons p l ih =>
    obtain ⟨y, a⟩ := p
    rw [lk_cons, List.lookup_cons]
    cases h : eqS x y with
    | true => rw [eqS_true h]; simp
    | false => rw [show (x == y) = false from beq_eq_false_iff_ne.mpr (eqS_false h)]; exact ih

/-! ### Values and objects -/
noncomputable def biV : BI → Value
  | .len => .builtin "len"
  | .max => .builtin "max"
  | .min => .builtin "min"
  | .list => .type "list"
  | .bytes => .type "bytes"
  | .sorted => .builtin "sorted"
  | .range => .type "range"

inductive VR (ρ : List Addr) : V → Value → Prop
  | none : VR ρ .none .none
  | bool (b : Bool) : VR ρ (.bool b) (.bool b)
  | int (i : Int) (t : Tok) : VR ρ (.int i) (.int i t)
  | str (x : Str) (t : Tok) : VR ρ (.str x) (.str x t)
  | bytes (b : List UInt8) (t : Tok) : VR ρ (.bytes b) (.bytes b.toArray t)
  | loc {k : Nat} {a : Addr} : ρ[k]? = some a → VR ρ (.loc k) (.ref a)
  | bi (b : BI) : VR ρ (.bi b) (biV b)
  | fn (a : Nat) : VR ρ (.fn a) (.ref a)
  | any {m : Nat} {i : Int} (t : Tok) : 0 ≤ i → i < m → VR ρ (.any m) (.int i t)
  | anyb (b : Bool) : VR ρ .anyb (.bool b)

theorem getElem?_grow {α : Type} {l r : List α} {k : Nat} {a : α} (h : l[k]? = some a) : (l ++ r)[k]? = some a := by
  obtain ⟨hl, e⟩ := List.getElem?_eq_some_iff.mp h
  rw [List.getElem?_append_left hl, h]
theorem VR.grow {ρ : List Addr} {v : V} {x : Value} (h : VR ρ v x) (τ : List Addr) : VR (ρ ++ τ) v x := by
  cases h with
  | none => exact .none
  | bool b => exact .bool b
  | int i t => exact .int i t
  | str x t => exact .str x t
  | bytes b t => exact .bytes b t
  | loc e => exact .loc (getElem?_grow e)
  | bi b => exact .bi b
  | fn a => exact .fn a
  | any t a b => exact .any t a b
  | anyb b => exact .anyb b
theorem vrs_grow {ρ : List Addr} {vs : List V} {xs : List Value} (h : A2 (VR ρ) vs xs) (τ : List Addr) : A2 (VR (ρ ++ τ)) vs xs := h.mono fun _ _ r => r.grow τ

/-- a dict's entries: the names in order, each value told -/
noncomputable def ER (ρ : List Addr) (p : Str × V) (e : DictEntry) : Prop := (∃ t, e.key = .str p.1 t) ∧ VR ρ p.2 e.val

noncomputable abbrev Hid := List (Addr × Obj)

/-- what stays all through: hidden objects, a pen's make -/
structure Par where
  hid : Hid
  pen : Nat → Obj → Prop

section
variable (ns : Par)
inductive OR (hid : Hid) (ρ : List Addr) : O → Obj → Prop
  | list {xs : List V} {vs : List Value} {n : Nat} : A2 (VR ρ) xs vs → OR hid ρ (.list xs) (listOf vs.toArray n)
  | tuple {xs : List V} {vs : List Value} : A2 (VR ρ) xs vs → OR hid ρ (.tuple xs) { cls := .type "tuple", data := .seq vs.toArray }
  | inst {d : Nat} {dx : Addr} {sl : Array (Option Value)} : ρ[d]? = some dx → OR hid ρ (.inst d) ⟨.ref 147, some dx, .plain, sl⟩
  | dict {fs : Loc} {es : List DictEntry} {n : Nat} : A2 (ER ρ) fs es → fs.length ≤ 100 → OR hid ρ (.dict fs) (dictOf es n)
  | cell0 {o : Obj} : o.data = .cell none → OR hid ρ (.cell none) o
  | cell {v : V} {x : Value} {o : Obj} : VR ρ v x → o.data = .cell (some x) → OR hid ρ (.cell (some v)) o
  | tab0 {l c : Nat} {q : Str} : OR hid ρ (.tab l c q) (tabObj #[])
  | tab1 {l c : Nat} {q : Str} {c' : Addr} {oc : Obj} {vs : Array Value} {t : Tok} : (c', oc) ∈ hid → oc.data = .fields vs → vs[1]? = some (.str q t) → OR hid ρ (.tab l c q) (tabObj #[rawInt l, rawInt c, .ref c'])
  | pen {c : Nat} {o : Obj} : ns.pen c o → OR hid ρ (.pen c) o
end

theorem ER.grow {ρ : List Addr} {p : Str × V} {e : DictEntry} (h : ER ρ p e) (τ : List Addr) : ER (ρ ++ τ) p e := ⟨h.1, h.2.grow τ⟩
theorem OR.grow {ns : Par} {hid hid' : Hid} {ρ : List Addr} {x : O} {o : Obj} (h : OR ns hid ρ x o) (τ : List Addr) (hh : ∀ p ∈ hid, p ∈ hid') : OR ns hid' (ρ ++ τ) x o := by
  cases h with
  | @list _ _ n a => exact .list (n := n) (vrs_grow a τ)
  | tuple a => exact .tuple (vrs_grow a τ)
  | inst e => exact .inst (getElem?_grow e)
  | dict a b => exact .dict (a.mono fun _ _ r => r.grow τ) b
  | cell0 a => exact .cell0 a
  | cell a b => exact .cell (a.grow τ) b
  | tab0 => exact .tab0
  | tab1 a b c => exact .tab1 (hh _ a) b c
  | pen a => exact .pen a

/-- a frame's locals' object, below -/
noncomputable def FR (ρ : List Addr) (l : Loc) (p : Addr × Obj) : Prop :=
  ∃ es ep, p.2.data = .dict es ep ∧ StrKeys es ∧ ∀ x v, lk l x = some v → ∃ V, nsFind es x = some V ∧ VR ρ v V
theorem FR.grow {ρ : List Addr} {l : Loc} {p : Addr × Obj} (h : FR ρ l p) (τ : List Addr) : FR (ρ ++ τ) l p :=
  let ⟨es, ep, a, b, c⟩ := h
  ⟨es, ep, a, b, fun x v e => let ⟨V, e1, e2⟩ := c x v e; ⟨V, e1, e2.grow τ⟩⟩
noncomputable def LocR (ρ : List Addr) (l : Loc) (m : Str → Option Value) : Prop := ∀ x v, lk l x = some v → ∃ V, m x = some V ∧ VR ρ v V
theorem LocR.grow {ρ : List Addr} {l : Loc} {m : Str → Option Value} (h : LocR ρ l m) (τ : List Addr) : LocR (ρ ++ τ) l m :=
  fun x v e => let ⟨V, e1, e2⟩ := h x v e; ⟨V, e1, e2.grow τ⟩

/-! ### Where a frame stands -/
structure Cx where
  A : Around
  env : Env
  L : Addr
  fas : List Addr
  stk : List Loc
  outer : List Env

noncomputable abbrev newsOf (fo : Hid) (hid : Hid) (ρ : List Addr) (objs : List Obj) : Hid := fo ++ (hid ++ ρ.zip objs)

structure RepX (ns : Par) (S₀ : Shared) (B : Heap) (cx : Cx) (st : St) (ρ : List Addr) (s : Shared) (objs : List Obj) (fo hid : Hid) (m : Str → Option Value) : Prop where
  F : Fr B cx.L s.heap m
  N : News B cx.L s.heap (newsOf fo hid ρ objs)
  nd : ((newsOf fo hid ρ objs).map (·.1)).Nodup
  len : objs.length = ρ.length
  led : A2 (OR ns hid ρ) st.led objs
  fas : fo.map (·.1) = cx.fas
  stk : A2 (FR ρ) cx.stk fo
  loc : LocR ρ st.loc m
  sh : s.gens = S₀.gens ∧ s.drawn = S₀.drawn ∧ s.os = S₀.os
  old : ∀ p ∈ ns.hid, p ∈ hid

noncomputable def Rep (ns : Par) (S₀ : Shared) (B : Heap) (cx : Cx) (st : St) (ρ : List Addr) (s : Shared) : Prop := ∃ objs fo hid m, RepX ns S₀ B cx st ρ s objs fo hid m

section
variable {ns : Par} {S₀ : Shared} {B : Heap} {cx : Cx} {st : St} {ρ : List Addr} {s : Shared} {objs : List Obj} {fo hid : Hid} {m : Str → Option Value}

theorem zip_mem {ρ : List Addr} {objs : List Obj} : ∀ {k : Nat} {a : Addr} {o : Obj}, ρ[k]? = some a → objs[k]? = some o → (a, o) ∈ ρ.zip objs := by
  intro k a o h1 h2
  have : (ρ.zip objs)[k]? = some (a, o) := by rw [List.getElem?_zip_eq_some]; exact ⟨h1, h2⟩
  exact List.mem_of_getElem? this

theorem RepX.mem (_R : RepX ns S₀ B cx st ρ s objs fo hid m) {k : Nat} {a : Addr} {o : Obj} (h1 : ρ[k]? = some a) (h2 : objs[k]? = some o) : (a, o) ∈ newsOf fo hid ρ objs :=
  List.mem_append_right _ (List.mem_append_right _ (zip_mem h1 h2))

/-- an object of the ledger, by its number -/
theorem RepX.at (R : RepX ns S₀ B cx st ρ s objs fo hid m) {k : Nat} {x : O} {a : Addr} (hx : st.led[k]? = some x) (ha : ρ[k]? = some a) : ∃ o, objs[k]? = some o ∧ OR ns hid ρ x o ∧ s.heap.get? a = some o := by
  obtain ⟨o, ho, r⟩ := R.led.left hx
  exact ⟨o, ho, r, (R.N _ (R.mem ha ho)).1⟩
theorem RepX.addr (R : RepX ns S₀ B cx st ρ s objs fo hid m) {k : Nat} {x : O} (hx : st.led[k]? = some x) : ∃ a, ρ[k]? = some a := by
  obtain ⟨o, ho, _⟩ := R.led.left hx
  obtain ⟨hl, _⟩ := List.getElem?_eq_some_iff.mp ho
  rw [R.len] at hl
  exact ⟨_, List.getElem?_eq_getElem hl⟩
theorem RepX.count (R : RepX ns S₀ B cx st ρ s objs fo hid m) : st.led.length = ρ.length := R.led.length.trans R.len

theorem RepX.lt (R : RepX ns S₀ B cx st ρ s objs fo hid m) : ∀ p ∈ newsOf fo hid ρ objs, p.1 < s.heap.objs.size := fun p hp => Heap.lt_size (R.N p hp).1

/-- the same heap's facts at another state -/
theorem RepX.re (R : RepX ns S₀ B cx st ρ s objs fo hid m) {h' : Heap} {tk : Nat} (F : Fr B cx.L h' m) (N : News B cx.L h' (newsOf fo hid ρ objs)) :
    RepX ns S₀ B cx st ρ { s with heap := h', toks := tk } objs fo hid m := ⟨F, N, R.nd, R.len, R.led, R.fas, R.stk, R.loc, R.sh, R.old⟩
theorem Rep.tok (R : Rep ns S₀ B cx st ρ s) (t : Nat) : Rep ns S₀ B cx st ρ { s with toks := t } :=
  let ⟨objs, fo, hid, m, X⟩ := R
  ⟨objs, fo, hid, m, ⟨X.F, X.N, X.nd, X.len, X.led, X.fas, X.stk, X.loc, X.sh, X.old⟩⟩

theorem zip_snoc {ρ : List Addr} {objs : List Obj} (h : objs.length = ρ.length) (a : Addr) (o : Obj) : (ρ ++ [a]).zip (objs ++ [o]) = ρ.zip objs ++ [(a, o)] := by
  rw [List.zip_append h.symm]; rfl

/-- one more object -/
theorem RepX.push (R : RepX ns S₀ B cx st ρ s objs fo hid m) {h' : Heap} {tk : Nat} {a : Addr} {o : Obj} {x : O} (F : Fr B cx.L h' m) (N : News B cx.L h' ((a, o) :: newsOf fo hid ρ objs)) (ha : ∀ p ∈ newsOf fo hid ρ objs, p.1 < a)
    (ok : OR ns hid (ρ ++ [a]) x o) : RepX ns S₀ B cx ⟨st.led ++ [x], st.loc⟩ (ρ ++ [a]) { s with heap := h', toks := tk } (objs ++ [o]) fo hid m := by
  have e : newsOf fo hid (ρ ++ [a]) (objs ++ [o]) = newsOf fo hid ρ objs ++ [(a, o)] := by
    show fo ++ (hid ++ (ρ ++ [a]).zip (objs ++ [o])) = fo ++ (hid ++ ρ.zip objs) ++ [(a, o)]
    rw [zip_snoc R.len, List.append_assoc, List.append_assoc]
  refine ⟨F, ?_, ?_, by rw [List.length_append, List.length_append, R.len]; rfl, ?_, R.fas, R.stk.mono fun _ _ r => r.grow _, R.loc.grow _, R.sh, R.old⟩
  · rw [e]
    intro p hp
    rcases List.mem_append.mp hp with hp | hp
    · exact N p (List.mem_cons_of_mem _ hp)
    · rw [List.mem_singleton.mp hp]; exact N _ List.mem_cons_self
  · rw [e, List.map_append, List.nodup_append]
    refine ⟨R.nd, by simp, fun b hb c hc => ?_⟩
    obtain ⟨p, hp, rfl⟩ := List.mem_map.mp hb
    simp only [List.map_cons, List.map_nil, List.mem_singleton] at hc
    rw [hc]
    exact Nat.ne_of_lt (ha p hp)
  · exact (R.led.mono fun _ _ r => r.grow [a] fun _ h => h).append (.cons ok .nil)

/-- an entry set anew -/
noncomputable def updL (d : Addr) (o' : Obj) : Hid → Hid
  | [] => []
  | p :: r => if p.1 = d then (d, o') :: r else p :: updL d o' r
theorem updL_upd {d : Addr} {o o' : Obj} : ∀ {l : Hid}, (l.map (·.1)).Nodup → (d, o) ∈ l → Upd d o o' l (updL d o' l)
  | [], _, h => nomatch h
  | p :: r, hn, hm => by
    rw [List.map_cons, List.nodup_cons] at hn
    unfold updL
    by_cases e : p.1 = d
    · rw [if_pos e]
      rcases List.mem_cons.mp hm with rfl | hm
      · exact .head fun q hq e' => hn.1 (List.mem_map.mpr ⟨q, hq, e'⟩)
      · exact absurd (List.mem_map.mpr ⟨_, hm, e.symm⟩) hn.1
    · rw [if_neg e]
      rcases List.mem_cons.mp hm with rfl | hm
      · exact absurd rfl e
      · exact .tail e (updL_upd hn.2 hm)
theorem updL_updF {d : Addr} {o : Obj} : ∀ {l : Hid}, (l.map (·.1)).Nodup → (d, o) ∈ l → UpdF d o l (fun o' => updL d o' l)
  | [], _, h => nomatch h
  | p :: r, hn, hm => by
    rw [List.map_cons, List.nodup_cons] at hn
    by_cases e : p.1 = d
    · have e1 : (fun o' => updL d o' (p :: r)) = fun o' => (d, o') :: r := by funext o'; unfold updL; rw [if_pos e]
      rw [e1]
      rcases List.mem_cons.mp hm with rfl | hm
      · exact .head fun q hq e' => hn.1 (List.mem_map.mpr ⟨q, hq, e'⟩)
      · exact absurd (List.mem_map.mpr ⟨_, hm, e.symm⟩) hn.1
    · have e1 : (fun o' => updL d o' (p :: r)) = fun o' => p :: updL d o' r := by funext o'; conv => lhs; unfold updL; rw [if_neg e]
      rw [e1]
      rcases List.mem_cons.mp hm with rfl | hm
      · exact absurd rfl e
      · exact .tail e (updL_updF hn.2 hm)
theorem updL_keys {d : Addr} {o' : Obj} : ∀ (l : Hid), (updL d o' l).map (·.1) = l.map (·.1)
  | [] => rfl
  | p :: r => by
    unfold updL
    by_cases e : p.1 = d
    · rw [if_pos e, List.map_cons, List.map_cons, e]
    · rw [if_neg e, List.map_cons, List.map_cons, updL_keys r]
theorem updL_off {d : Addr} {o' : Obj} : ∀ {l : Hid} {r : Hid}, (∀ p ∈ l, p.1 ≠ d) → updL d o' (l ++ r) = l ++ updL d o' r
  | [], _, _ => rfl
  | p :: l, r, h => by
    show (if p.1 = d then (d, o') :: (l ++ r) else p :: updL d o' (l ++ r)) = _
    rw [if_neg (h p List.mem_cons_self), updL_off fun q hq => h q (List.mem_cons_of_mem _ hq)]
    rfl
theorem updL_zip {d : Addr} {o' : Obj} : ∀ {ρ : List Addr} {objs : List Obj} {k : Nat}, ρ.Nodup → objs.length = ρ.length → ρ[k]? = some d → updL d o' (ρ.zip objs) = ρ.zip (objs.set k o')
  | [], _, k, _, _, h => by cases h
  | a :: ρ, [], k, _, h, _ => by cases h
  | a :: ρ, b :: objs, k, hn, hl, hk => by
    rw [List.nodup_cons] at hn
    rw [List.zip_cons_cons]
    unfold updL
    cases k with
    | zero =>
      cases hk
      rw [if_pos rfl]; rfl
    | succ k =>
      have hd : d ∈ ρ := List.mem_of_getElem? (by exact hk)
      rw [if_neg (fun e : a = d => hn.1 (e ▸ hd)), updL_zip hn.2 (Nat.succ.inj hl) hk]
      rfl

theorem RepX.nodup (R : RepX ns S₀ B cx st ρ s objs fo hid m) : ρ.Nodup := by
  have h := R.nd
  rw [show newsOf fo hid ρ objs = fo ++ (hid ++ ρ.zip objs) from rfl, List.map_append, List.map_append, List.map_fst_zip (Nat.le_of_eq R.len.symm)] at h
  exact (List.nodup_append.mp (List.nodup_append.mp h).2.1).2.1
theorem RepX.offF (R : RepX ns S₀ B cx st ρ s objs fo hid m) {k : Nat} {d : Addr} (hk : ρ[k]? = some d) : (∀ p ∈ fo, p.1 ≠ d) ∧ ∀ p ∈ hid, p.1 ≠ d := by
  have h := R.nd
  rw [show newsOf fo hid ρ objs = fo ++ (hid ++ ρ.zip objs) from rfl, List.map_append, List.map_append, List.map_fst_zip (Nat.le_of_eq R.len.symm)] at h
  have hd : d ∈ ρ := List.mem_of_getElem? hk
  have h2 := List.nodup_append.mp h
  exact ⟨fun p hp e => h2.2.2 p.1 (List.mem_map_of_mem hp) d (List.mem_append_right _ hd) e, fun p hp e => (List.nodup_append.mp h2.2.1).2.2 p.1 (List.mem_map_of_mem hp) d hd e⟩
theorem RepX.updNews (R : RepX ns S₀ B cx st ρ s objs fo hid m) {k : Nat} {d : Addr} (hk : ρ[k]? = some d) (o' : Obj) : updL d o' (newsOf fo hid ρ objs) = newsOf fo hid ρ (objs.set k o') := by
  obtain ⟨a, b⟩ := R.offF hk
  show updL d o' (fo ++ (hid ++ ρ.zip objs)) = _
  rw [updL_off a, updL_off b, updL_zip R.nodup R.len hk]

/-- an object of the ledger turned -/
theorem RepX.upd (R : RepX ns S₀ B cx st ρ s objs fo hid m) {h' : Heap} {tk : Nat} {k : Nat} {d : Addr} {o' : Obj} {x : O} (hk : ρ[k]? = some d) (F : Fr B cx.L h' m) (N : News B cx.L h' (updL d o' (newsOf fo hid ρ objs)))
    (ok : OR ns hid ρ x o') : RepX ns S₀ B cx ⟨st.led.set k x, st.loc⟩ ρ { s with heap := h', toks := tk } (objs.set k o') fo hid m := by
  rw [R.updNews hk] at N
  refine ⟨F, N, ?_, by rw [List.length_set, R.len], R.led.set ok, R.fas, R.stk, R.loc, R.sh, R.old⟩
  rw [← R.updNews hk, updL_keys]
  exact R.nd

/-- the frame's own map turned -/
theorem RepX.locals (R : RepX ns S₀ B cx st ρ s objs fo hid m) {h' : Heap} {tk : Nat} {m' : Str → Option Value} {l : Loc} (F : Fr B cx.L h' m') (N : News B cx.L h' (newsOf fo hid ρ objs)) (hl : LocR ρ l m') :
    RepX ns S₀ B cx ⟨st.led, l⟩ ρ { s with heap := h', toks := tk } objs fo hid m' := ⟨F, N, R.nd, R.len, R.led, R.fas, R.stk, hl, R.sh, R.old⟩

theorem lk_put {l : Loc} {x y : Str} {v : V} : lk (put x v l) y = if y = x then some v else lk l y := by
  induction l with
  | nil =>
    rw [put_nil, lk_cons, lk_nil]
    by_cases e : y = x
    · rw [e, eqS_self, if_pos rfl]
    · rw [if_neg e]
      cases h : eqS y x with
      | true => exact absurd (eqS_true h) e
      | false => rfl
  | cons p l ih =>
    rw [put_cons]
    cases h : eqS p.1 x with
    | true =>
      have hp := eqS_true h
      rw [lk_cons, lk_cons, hp]
      by_cases e : y = x
      · rw [e, eqS_self, if_pos rfl]
      · rw [if_neg e]
        cases h' : eqS y x with
        | true => exact absurd (eqS_true h') e
        | false => rfl
    | false =>
      rw [lk_cons, lk_cons, ih]
      cases h' : eqS y p.1 with
      | true =>
        have hy := eqS_true h'
        have : y ≠ x := fun e => by rw [← hy, e, eqS_self] at h; cases h
        simp only [if_neg this]
      | false => rfl
theorem LocR.put {l : Loc} {x : Str} {v : V} {X : Value} (h : LocR ρ l m) (hv : VR ρ v X) : LocR ρ (Mine.put x v l) (fun y => if y = x then some X else m y) := by
  intro y u e
  rw [lk_put] at e
  by_cases hy : y = x
  · rw [if_pos hy] at e
    cases e
    exact ⟨X, by simp [hy], hv⟩
  · rw [if_neg hy] at e
    obtain ⟨U, e1, e2⟩ := h y u e
    exact ⟨U, by simp [hy, e1], e2⟩
end
end Mine
end

section
open PySem PySem.W PyProof.Rows PySem.Calls
set_option autoImplicit false
namespace Mine

/-! ### Numbers only grow -/
noncomputable def Ext (ρ ρ' : List Addr) : Prop := ∃ τ, ρ' = ρ ++ τ
theorem Ext.refl (ρ : List Addr) : Ext ρ ρ := ⟨[], (List.append_nil ρ).symm⟩
theorem Ext.trans {ρ₁ ρ₂ ρ₃ : List Addr} (a : Ext ρ₁ ρ₂) (b : Ext ρ₂ ρ₃) : Ext ρ₁ ρ₃ := by
  obtain ⟨τ, rfl⟩ := a
  obtain ⟨τ', rfl⟩ := b
  exact ⟨τ ++ τ', List.append_assoc ..⟩
theorem Ext.snoc (ρ : List Addr) (a : Addr) : Ext ρ (ρ ++ [a]) := ⟨[a], rfl⟩
theorem Ext.at {ρ ρ' : List Addr} (e : Ext ρ ρ') {k : Nat} {a : Addr} (h : ρ[k]? = some a) : ρ'[k]? = some a := by
  obtain ⟨τ, rfl⟩ := e
  exact getElem?_grow h
theorem VR.ext {ρ ρ' : List Addr} {v : V} {x : Value} (h : VR ρ v x) (e : Ext ρ ρ') : VR ρ' v x := by
  obtain ⟨τ, rfl⟩ := e
  exact h.grow τ
theorem vrs_ext {ρ ρ' : List Addr} {vs : List V} {xs : List Value} (h : A2 (VR ρ) vs xs) (e : Ext ρ ρ') : A2 (VR ρ') vs xs := h.mono fun _ _ r => r.ext e
theorem VR.top {ρ : List Addr} {v : V} {x : Value} (h : VR [] v x) : VR ρ v x := by
  have := h.grow ρ
  rwa [List.nil_append] at this

/-! ### What the written part of the heap says -/
structure FnK (K : Frag) (a : Nat) (F : Fn) : Prop where
  there : ∃ (oc : Value) (od : Option Addr) (sl : Array (Option Value)) (name : Str) (params : Arguments) (scope : Scope) (dV kV doc pm cdv ct : Value) (an : Option Addr),
    K.lookup a = some ⟨oc, od, .func (fnX name F.qual params F.body scope [] dV kV doc pm an cdv ct), sl⟩ ∧ codeIn K cdv F.qual = true ∧ scope.names = F.names ∧
    scope.isCoroutine = false ∧ scope.isGenerator = false ∧ scope.kind = .function ∧
    ∀ (s : Shared) (vs : List Value), vs.length = F.params.length → BindsTo s (fnX name F.qual params F.body scope [] dV kV doc pm an cdv ct) ⟨vs, []⟩ (F.params.zip vs)
  nodup : F.params.Nodup
  cells : (cellNames F.names).Nodup
  kinds : ∀ x ∈ F.params, F.names.lookup x = some .local ∨ (F.names.lookup x = some .cell ∧ x ∈ cellNames F.names)
  cellk : ∀ x ∈ cellNames F.names, F.names.lookup x = some .cell

structure KF (K : Frag) : Prop where
  gl : ∀ x v, lk globs x = some v → ∃ V, nsIn K mainGlobals x = some (some V) ∧ VR [] v V
  bu : ∀ x v, lk globs x = none → lk builts x = some v → nsIn K mainGlobals x = some none ∧ (∃ V, bootBuiltins x = some V ∧ VR [] v V) ∧ x ≠ "__name__"
  makes : makesIn K 147 = true
  init : findIn K (.ref 147) "__init__" = some (some (.ref 74))
  initF : isFn K (.ref 74) = true
  plain : ∀ x, plainGet K 147 x = true
  dict : hasDictIn K 147 = true
  over : plainOver K 147 = true
  seta : findIn K (.ref 147) "__setattr__" = some (some (.builtin "object.__setattr__"))
  fields : ∀ x u, lk fieldNames x = some u → findIn K (.ref 147) x = some none ∧ takerIn K 147 x = some none
  meths : ∀ x a, lk methods x = some a → findIn K (.ref 147) x = some (some (.ref a)) ∧ isFn K (.ref a) = true ∧ keepIn K (.ref a) = true
  keeps : ∀ a F, fnAt a = some F → keepIn K (.ref a) = true ∧ FnK K a F
  keepC : keepIn K (.ref 147) = true
  keep53 : keepIn K (.ref 53) = true
  keep165 : keepIn K (.ref 165) = true
  keep179 : keepIn K (.ref 179) = true

/-- what stays all through -/
structure Wd (w : World) (K : Frag) (B : Heap) (p : Program) (loose : List Str) (mean : ExcName → Option Value) (mg mb : Str → Option Value) : Prop where
  X : K.In B
  T : Top p loose mean mg mb B
  kf : KF K
  lim : B.NoLimit

/-- a frame that may call: what an exception's way asks, what a lambda asks -/
structure FnOk (B : Heap) (cx : Cx) (fr : FI) (ρ : List Addr) : Prop where
  frames : cx.A.frames = some (cx.env :: cx.outer)
  frame : cx.env.frame = some cx.L
  qual : cx.env.qual = fr.qual ++ (".<locals>." : Str)
  outer : cx.outer.map (·.frame) = cx.fas.map some
  kinds : ∀ e ∈ cx.outer, e.scope.kind = .function
  tab : ∀ t, fr.tab = some t → ∃ c P, cx.env.code = .ref c ∧ CodeHd B c P ∧ ρ[t]? = some P

noncomputable def CellR (ρ : List Addr) (c : Str × Addr) (k : Str × Nat) : Prop := c.1 = k.1 ∧ ρ[k.2]? = some c.2

structure Good (B : Heap) (pre : List Addr) (cx : Cx) (fr : FI) (n : Nat) (ρ : List Addr) : Prop where
  kind : cx.env.scope.kind = .function
  names : cx.env.scope.names = fr.names
  loc : cx.env.locals = cx.L
  glo : cx.env.globals = mainGlobals
  bui : cx.env.builtins = builtinsNs
  cells : A2 (CellR ρ) cx.env.cells fr.cells
  dep : cx.A.depth + 2 * n ≤ 980
  uni : cx.A.units + 20 * n ≤ 9500
  hand : cx.A.handled = none
  fn : fr.fn = true → FnOk B cx fr ρ
  pre : Ext pre ρ

section
variable {ns : Par} {S₀ : Shared} {prog : Program} {w : World} {K : Frag} {B : Heap} {p : Program} {loose : List Str} {mean : ExcName → Option Value} {mg mb : Str → Option Value}
variable {pre : List Addr} {cx : Cx} {fr : FI} {n : Nat} {st st' : St} {ρ ρ' : List Addr} {s : Shared} {A : Around} {E : Value → Shared → Prop}

theorem FnOk.ext (h : FnOk B cx fr ρ) (e : Ext ρ ρ') : FnOk B cx fr ρ' :=
  ⟨h.frames, h.frame, h.qual, h.outer, h.kinds, fun t ht => let ⟨c, P, a, b, d⟩ := h.tab t ht; ⟨c, P, a, b, e.at d⟩⟩
theorem Good.ext (G : Good B pre cx fr n ρ) (e : Ext ρ ρ') : Good B pre cx fr n ρ' :=
  ⟨G.kind, G.names, G.loc, G.glo, G.bui, G.cells.mono fun _ _ r => ⟨r.1, e.at r.2⟩, G.dep, G.uni, G.hand, fun h => (G.fn h).ext e, G.pre.trans e⟩
theorem Good.down (G : Good B pre cx fr (n + 1) ρ) : Good B pre cx fr n ρ :=
  ⟨G.kind, G.names, G.loc, G.glo, G.bui, G.cells, by have := G.dep; omega, by have := G.uni; omega, G.hand, G.fn, G.pre⟩

theorem Good.cell (G : Good B pre cx fr n ρ) {x : Str} {k : Nat} (h : lk fr.cells x = some k) : ∃ c, cx.env.cells.lookup x = some c ∧ ρ[k]? = some c := by
  have hc := G.cells
  generalize cx.env.cells = cl at hc
  generalize fr.cells = fl at hc h
  induction hc with
  | nil => rw [lk_nil] at h; cases h
  | @cons a b l m r _ ih =>
    obtain ⟨x', c⟩ := a
    obtain ⟨y', k'⟩ := b
    obtain ⟨e1, e2⟩ := r
    dsimp only at e1 e2
    subst e1
    rw [lk_cons] at h
    rw [List.lookup_cons]
    cases q : eqS x x' with
    | true =>
      rw [q] at h
      cases h
      rw [eqS_true q]
      exact ⟨c, by simp, e2⟩
    | false =>
      rw [q] at h
      rw [show (x == x') = false from beq_eq_false_iff_ne.mpr (eqS_false q)]
      exact ih h

theorem RepX.keepB {objs : List Obj} {fo hid : Hid} {m : Str → Option Value} (R : RepX ns S₀ B cx st ρ s objs fo hid m) (b : Addr) (o : Obj) (e : B.get? b = some o) : s.heap.get? b = some o := R.F.keep b o e

theorem cellAt_of {led : List O} {k : Nat} {v : V} (h : cellAt led k = some v) : led[k]? = some (.cell (some v)) := by
  unfold cellAt at h
  rw [nth_eq] at h
  split at h
  · rename_i u e
    cases h
    exact e
  · cases h

/-- a name read -/
theorem name_go {x : Str} {v : V} {pos : Pos} {Q : Value → Shared → Prop} (D : Wd w K B p loose mean mg mb) (G : Good B pre cx fr n ρ) (R : Rep ns S₀ B cx st ρ s) (h : evName fr st x = some v) (q : ∀ V, VR ρ v V → Q V s) :
    wpAny (model prog w) A (eval (.Name x pos) cx.env) Q E s := by
  obtain ⟨objs, fo, hid, m, X⟩ := R
  unfold evName at h
  have hcell : evCell fr st x = some v → ∃ c V, cx.env.cells.lookup x = some c ∧ s.heap.IsCell c (some V) ∧ VR ρ v V := by
    intro h
    unfold evCell at h
    split at h
    · rename_i k hk
      obtain ⟨c, hc, hr⟩ := G.cell hk
      obtain ⟨o, _, hor, hho⟩ := X.at (cellAt_of h) hr
      cases hor with
      | cell a b => exact ⟨c, _, hc, ⟨o, hho, b⟩, a⟩
    · cases h
  cases hd : isDebug x with
  | true => rw [hd] at h; cases h
  | false =>
    rw [hd] at h
    dsimp only at h
    have hd2 := Bool.or_eq_false_iff.mp hd
    have hdb : (x == ("__debug__" : Str)) = false := beq_eq_false_iff_ne.mpr (eqS_false hd2.1)
    have hcd : (x == ("__classdict__" : Str)) = false := beq_eq_false_iff_ne.mpr (eqS_false hd2.2)
    rw [lk_lookup, ← G.names] at h
    split at h
    · rename_i hk
      obtain ⟨V, e1, e2⟩ := X.loc x v h
      exact wpAny_Name (wpAny_loadName_local G.kind hk (by rw [G.loc]; exact X.F.ns) e1 (q V e2)) hdb
    · rename_i hk
      obtain ⟨c, V, e1, e2, e3⟩ := hcell h
      exact wpAny_Name (wpAny_loadName_cell G.kind hk e1 e2 (q V e3)) hdb
    · rename_i hk
      obtain ⟨c, V, e1, e2, e3⟩ := hcell h
      exact wpAny_Name (wpAny_loadName_free G.kind hk e1 e2 (q V e3) hcd) hdb
    · rename_i hk
      unfold evGlob at h
      split at h
      · rename_i u hu
        cases h
        obtain ⟨V, e1, e2⟩ := D.kf.gl x v hu
        exact Name_function_global G.kind hk (loadGlobal_global (by rw [G.glo]; exact D.T.g.keeps X.F.keep) (mg_of D.X D.T.g e1) (q V e2.top)) hdb
      · rename_i hu
        obtain ⟨e1, ⟨V, e2, e3⟩, e4⟩ := D.kf.bu x v hu h
        exact Name_function_global G.kind hk (loadGlobal_builtin (by rw [G.glo]; exact D.T.g.keeps X.F.keep) (mg_none_of D.X D.T.g e1) (by rw [G.bui]; exact D.T.b.keeps X.F.keep) ((D.T.builtins x e4).trans e2) (q V e3.top)) hdb
    · cases h
end
end Mine
end

section
open PySem PySem.W PyProof.Rows PySem.Calls
set_option autoImplicit false
namespace Mine

/-! ### small facts -/
theorem small_le {α : Type} {xs : List α} (h : small xs = true) : xs.length ≤ 1000 := by
  unfold small at h
  rw [len_eq] at h
  exact Nat.le_of_ble_eq_true h
theorem A2.toArray_size {ρ : List Addr} {xs : List V} {vs : List Value} (h : A2 (VR ρ) xs vs) : vs.toArray.size = xs.length := by rw [List.size_toArray, h.length]

section
variable {ns : Par} {S₀ : Shared} {prog : Program} {w : World} {K : Frag} {B : Heap}
variable {cx : Cx} {fr : FI} {n : Nat} {st st' : St} {ρ ρ' : List Addr} {s : Shared} {A : Around} {E : Value → Shared → Prop}
variable {objs : List Obj} {fo hid : Hid} {m : Str → Option Value}

theorem RepX.list (X : RepX ns S₀ B cx st ρ s objs fo hid m) {k : Nat} {a : Addr} {xs : List V} (hx : st.led[k]? = some (.list xs)) (ha : ρ[k]? = some a) :
    ∃ vs n, A2 (VR ρ) xs vs ∧ objs[k]? = some (PySem.W.listOf vs.toArray n) ∧ s.heap.get? a = some (PySem.W.listOf vs.toArray n) ∧ s.heap.IsList a vs.toArray := by
  obtain ⟨o, h1, h2, h3⟩ := X.at hx ha
  cases h2 with
  | @list _ vs n r => exact ⟨vs, n, r, h1, h3, ⟨_, h3, rfl, n, rfl⟩⟩
theorem RepX.tuple (X : RepX ns S₀ B cx st ρ s objs fo hid m) {k : Nat} {a : Addr} {xs : List V} (hx : st.led[k]? = some (.tuple xs)) (ha : ρ[k]? = some a) :
    ∃ vs, A2 (VR ρ) xs vs ∧ s.heap.IsTuple a vs.toArray ∧ IsTup s.heap a vs.toArray := by
  obtain ⟨o, h1, h2, h3⟩ := X.at hx ha
  cases h2 with
  | tuple r => exact ⟨_, r, ⟨_, h3, rfl, 0, rfl⟩, ⟨_, h3, rfl, 0, rfl⟩⟩

/-- a new list, a new tuple: the rules' last step -/
theorem RepX.pushed (X : RepX ns S₀ B cx st ρ s objs fo hid m) {h' : Heap} {o : Obj} {x : O} (F : Fr B cx.L h' m) (N : News B cx.L h' ((s.heap.objs.size, o) :: newsOf fo hid ρ objs)) (ok : OR ns hid (ρ ++ [s.heap.objs.size]) x o) :
    Rep ns S₀ B cx ⟨st.led ++ [x], st.loc⟩ (ρ ++ [s.heap.objs.size]) { s with heap := h' } :=
  ⟨_, _, _, _, X.push (tk := s.toks) F N X.lt ok⟩
theorem loc_last {a : Addr} {led : List O} (h : led.length = ρ.length) : VR (ρ ++ [a]) (.loc led.length) (.ref a) := .loc (by rw [h]; simp)

theorem newList_go {vs : List V} {xs : List Value} {Q : Value → Shared → Prop} (R : Rep ns S₀ B cx st ρ s) (h : A2 (VR ρ) vs xs) (hz : xs.length ≤ 2000)
    (q : ∀ ρ' V s', Ext ρ ρ' → VR ρ' (.loc (len st.led)) V → Rep ns S₀ B cx ⟨app st.led [.list vs], st.loc⟩ ρ' s' → Q V s') : wpAny (model prog w) A (newList xs) Q E s := by
  obtain ⟨objs, fo, hid, m, X⟩ := R
  refine newList_N X.F X.N (fun h' F' N' => ?_) (by rw [sizeLine_eq]; omega)
  rw [app_eq, len_eq] at q
  exact q _ _ _ (Ext.snoc _ _) (loc_last X.count) (X.pushed F' N' (OR.list (n := 0) (vrs_grow h _)))
theorem newTuple_go {vs : List V} {xs : List Value} {Q : Value → Shared → Prop} (R : Rep ns S₀ B cx st ρ s) (h : A2 (VR ρ) vs xs) (hz : xs.length ≤ 2000)
    (q : ∀ ρ' V s', Ext ρ ρ' → VR ρ' (.loc (len st.led)) V → Rep ns S₀ B cx ⟨app st.led [.tuple vs], st.loc⟩ ρ' s' → Q V s') : wpAny (model prog w) A (newTuple xs) Q E s := by
  obtain ⟨objs, fo, hid, m, X⟩ := R
  refine newTuple_N X.F X.N (fun h' F' N' => ?_) (by rw [sizeLine_eq]; omega)
  rw [app_eq, len_eq] at q
  exact q _ _ _ (Ext.snoc _ _) (loc_last X.count) (X.pushed F' N' (OR.tuple (vrs_grow h _)))

theorem binop_go {op : Operator} {a b v : V} {va vb : Value} {Q : Value → Shared → Prop} (R : Rep ns S₀ B cx st ρ s) (h : binop op a b st = some (v, st')) (ra : VR ρ a va) (rb : VR ρ b vb)
    (q : ∀ ρ' V s', Ext ρ ρ' → VR ρ' v V → Rep ns S₀ B cx st' ρ' s' → Q V s') : wpAny (model prog w) A (binaryOp op va vb) Q E s := by
  unfold binop at h
  split at h
  · split at h
    · cases h
      cases ra; cases rb
      exact PyProof.Rows.add_int (q _ _ _ (Ext.refl _) (.int _ _) (R.tok _))
    · split at h
      · rename_i e
        cases h
        cases ra; cases rb
        obtain ⟨e1, e2⟩ := Bool.and_eq_true_iff.mp e
        rw [app_eq] at q
        refine bytes_add_K (by rw [List.size_toArray, List.size_toArray]; have := small_le e1; have := small_le e2; omega) rfl fun t k => ?_
        exact q _ _ _ (Ext.refl _) (.bytes _ _) (R.tok _)
      · cases h
    · unfold binLst at h
      rw [nth_eq, nth_eq] at h
      split at h
      · rename_i xs ys e1 e2
        split at h
        · rename_i e
          cases h
          cases ra with | loc ha => cases rb with | loc hb =>
          obtain ⟨z1, z2⟩ := Bool.and_eq_true_iff.mp e
          have z1 := small_le z1; have z2 := small_le z2
          obtain ⟨objs, fo, hid, m, X⟩ := R
          obtain ⟨vs, _, r1, _, _, l1⟩ := X.list e1 ha
          obtain ⟨ws, _, r2, _, _, l2⟩ := X.list e2 hb
          refine add_arrays X.F X.N l1 l2 (fun h' F' N' => ?_) (by rw [r1.toArray_size, r2.toArray_size, sizeLine_eq]; omega)
          rw [app_eq, app_eq, len_eq] at q
          exact q _ _ _ (Ext.snoc _ _) (loc_last X.count) (X.pushed F' N' (OR.list (n := 0) (vrs_grow (r1.append r2) _)))
        · cases h
      · cases h
    · cases h
  · split at h
    · cases h
      cases ra; cases rb
      exact PyProof.Rows.sub_int (q _ _ _ (Ext.refl _) (.int _ _) (R.tok _))
    · cases h
  · cases h

/-! comparisons: they leave the state as it is -/
theorem beqL_eq : ∀ (x y : List UInt8), beqL x y = (x == y)
  | [], [] => rfl
  | [], _ :: _ => rfl
  | _ :: _, [] => rfl
  | x :: xs, y :: ys => by
    show ((x == y) && beqL xs ys) = _
    rw [beqL_eq xs ys]; rfl
theorem eqS_beq (a b : Str) : eqS a b = (a == b) := by
  rw [eqS_eq]
  cases h : (a == b) with
  | true => exact decide_eq_true (beq_iff_eq.mp h)
  | false => exact decide_eq_false (beq_eq_false_iff_ne.mp h)
theorem eqFlat_at {a b : V} {va vb : Value} {c : Bool} (h : eqFlat a b = some c) (ra : VR ρ a va) (rb : VR ρ b vb) : SeqAt.EqAt A s va vb c := by
  unfold eqFlat at h
  split at h
  · split at h
    · cases h; cases ra; cases rb; exact SeqAt.EqAt.int_int _ _ _ _
    · cases h; cases ra; cases rb; exact SeqAt.EqAt.int_none _ _
    · cases h
  · split at h
    · cases h; cases ra; cases rb; rw [eqS_beq]; exact SeqAt.EqAt.str_str _ _ _ _
    · cases h
  · split at h
    · cases h; cases ra; cases rb; exact SeqAt.EqAt.bool_bool _ _
    · cases h
  · split at h
    · cases h; cases ra; cases rb
      rw [beqL_eq]
      refine fun prog w E Q hq => eqBool_bytes ?_
      rename_i x _ y _ _
      have e : decide ((x.toArray).toList = (y.toArray).toList) = (x == y) := by rw [Bool.eq_iff_iff]; simp
      rw [e]
      exact hq
    · cases h
  · split at h
    · cases h; cases ra; cases rb; exact SeqAt.EqAt.same _
    · cases h; cases ra; cases rb; exact SeqAt.EqAt.none_int _ _
    · cases h
  · cases h
theorem eqFlat_go {a b : V} {va vb : Value} {c : Bool} {Q : Value → Shared → Prop} (h : eqFlat a b = some c) (ra : VR ρ a va) (rb : VR ρ b vb) :
    (Q (.bool c) s → wpAny (model prog w) A (compareOp .Eq va vb) Q E s) ∧ (Q (.bool (!c)) s → wpAny (model prog w) A (compareOp .NotEq va vb) Q E s) := by
  unfold eqFlat at h
  split at h
  · split at h
    · cases h; cases ra; cases rb; exact ⟨eq_int, ne_int⟩
    · cases h; cases ra; cases rb; exact ⟨EqNone.eq_int_none, EqNone.ne_int_none⟩
    · cases h
  · split at h
    · cases h; cases ra; cases rb; rw [eqS_beq]; exact ⟨eq_str, ne_str⟩
    · cases h
  · split at h
    · cases h; cases ra; cases rb; exact ⟨eq_bool, ne_bool⟩
    · cases h
  · split at h
    · cases h; cases ra; cases rb; rw [beqL_eq]; exact ⟨eq_bytes, ne_bytes⟩
    · cases h
  · split at h
    · cases h; cases ra; cases rb; exact ⟨EqNone.eq_none_none, EqNone.ne_none_none⟩
    · cases h; cases ra; cases rb; exact ⟨EqNone.eq_none_int, EqNone.ne_none_int⟩
    · cases h
  · cases h

theorem eqV_go {a b : V} {va vb : Value} {c : Bool} {Q : Value → Shared → Prop} (R : Rep ns S₀ B cx st ρ s) (hu : A.units < cLine) (h : eqV st a b = some c) (ra : VR ρ a va) (rb : VR ρ b vb) :
    (Q (.bool c) s → wpAny (model prog w) A (compareOp .Eq va vb) Q E s) ∧ (Q (.bool (!c)) s → wpAny (model prog w) A (compareOp .NotEq va vb) Q E s) := by
  unfold eqV at h
  split at h
  · split at h
    · rw [nth_eq, nth_eq] at h
      unfold eqTup at h
      split at h
      · rename_i xs ys e1 e2
        cases ra with | loc ha => cases rb with | loc hb =>
        obtain ⟨objs, fo, hid, m, X⟩ := R
        obtain ⟨vs, r1, t1, _⟩ := X.tuple e1 ha
        obtain ⟨ws, r2, t2, _⟩ := X.tuple e2 hb
        unfold eqPair at h
        split at h
        · rename_i a b c' d
          obtain ⟨va, vs, rfl, r1a, r1⟩ := r1.cons_left
          obtain ⟨vb, vs, rfl, r1b, r1⟩ := r1.cons_left
          cases r1
          obtain ⟨vc, ws, rfl, r2a, r2⟩ := r2.cons_left
          obtain ⟨vd, ws, rfl, r2b, r2⟩ := r2.cons_left
          cases r2
          split at h
          · rename_i x h1
            split at h
            · rename_i y h2
              cases h
              have k1 : SeqAt.EqAt A.in1 s va vc x := eqFlat_at h1 r1a r2a
              have k2 : SeqAt.EqAt A.in1 s vb vd y := eqFlat_at h2 r1b r2b
              have he : ∀ j (h1 : j < #[va, vb].size) (h2 : j < #[vc, vd].size), SeqAt.EqAt A.in1 s #[va, vb][j] #[vc, vd][j] (if j = 0 then x else y) := by
                intro j h1 h2
                match j, h1 with
                | 0, _ => exact k1
                | 1, _ => exact k2
              refine ⟨fun q => SeqAt.eq_tupleAt t1 t2 hu he ?_, fun q => SeqAt.RcNeAt.tuples t1 t2 hu he _ _ _ _ ?_⟩ <;> (cases x <;> cases y <;> exact q)
            · cases h
          · cases h
        · cases h
      · cases h
    · cases h
  · exact eqFlat_go h ra rb

theorem inInts_at {i : Int} : ∀ {xs : List V} {vs : List Value} {c : Bool}, inInts i xs = some c → A2 (VR ρ) xs vs → ∃ ks : List Int, IntsAre vs ks ∧ (ks.any fun x => x == i) = c
  | [], vs, c, h, r => by
    cases r
    cases h
    exact ⟨[], .nil, rfl⟩
  | x :: xs, _, c, h, r => by
    cases r with
    | cons rx r =>
    unfold inInts at h
    split at h
    · rename_i e; cases e
    · rename_i j xs' e
      cases e
      split at h
      · rename_i d hd
        cases h
        cases rx with
        | int _ u =>
        obtain ⟨ks, a, b⟩ := inInts_at hd r
        exact ⟨_ :: ks, .cons _ _ a, by rw [List.any_cons, b]⟩
      · cases h
    · cases h
theorem inStrs_at {i : Str} : ∀ {xs : List V} {vs : List Value} {c : Bool}, inStrs i xs = some c → A2 (VR ρ) xs vs → ∃ ks : List Str, StrsAre vs ks ∧ (ks.any fun x => x == i) = c
  | [], vs, c, h, r => by
    cases r
    cases h
    exact ⟨[], .nil, rfl⟩
  | x :: xs, _, c, h, r => by
    cases r with
    | cons rx r =>
    unfold inStrs at h
    split at h
    · rename_i e; cases e
    · rename_i j xs' e
      cases e
      split at h
      · rename_i d hd
        cases h
        cases rx with
        | str _ u =>
        obtain ⟨ks, a, b⟩ := inStrs_at hd r
        exact ⟨_ :: ks, .cons _ _ a, by rw [List.any_cons, b, eqS_beq]⟩
      · cases h
    · cases h

theorem inV_go {a b : V} {va vb : Value} {c : Bool} {Q : Value → Shared → Prop} (R : Rep ns S₀ B cx st ρ s) (h : inV st a b = some c) (ra : VR ρ a va) (rb : VR ρ b vb) :
    (Q (.bool c) s → wpAny (model prog w) A (compareOp .In va vb) Q E s) ∧ (Q (.bool (!c)) s → wpAny (model prog w) A (compareOp .NotIn va vb) Q E s) := by
  unfold inV at h
  split at h
  · rw [nth_eq] at h
    unfold inAt at h
    cases rb with | loc hb =>
    obtain ⟨objs, fo, hid, m, X⟩ := R
    split at h
    · rename_i ys e
      obtain ⟨vs, r, _, t⟩ := X.tuple e hb
      split at h
      · cases ra
        obtain ⟨ks, r1, rfl⟩ := inInts_at h r
        exact ⟨in_tuple_ints t r1, notin_tuple_ints t r1⟩
      · cases ra
        obtain ⟨ks, r1, rfl⟩ := inStrs_at h r
        exact ⟨in_tuple_strs t r1, notin_tuple_strs t r1⟩
      · cases h
    · rename_i ys e
      obtain ⟨vs, _, r, _, _, t⟩ := X.list e hb
      split at h
      · cases ra
        obtain ⟨ks, r1, rfl⟩ := inInts_at h r
        exact ⟨in_list_ints t r1, notin_list_ints t r1⟩
      · cases h
    · cases h
  · cases h

theorem isNone_go {a b : V} {va vb : Value} {c : Bool} {Q : Value → Shared → Prop} (h : isNone a b = some c) (ra : VR ρ a va) (rb : VR ρ b vb) :
    (Q (.bool c) s → wpAny (model prog w) A (compareOp .Is va vb) Q E s) ∧ (Q (.bool (!c)) s → wpAny (model prog w) A (compareOp .IsNot va vb) Q E s) := by
  unfold isNone at h
  split at h
  · cases rb
    split at h
    · cases h; cases ra; exact ⟨is_none_none, isnot_none_none⟩
    · cases h; cases ra; exact ⟨is_int_none, isnot_int_none⟩
    · cases h; cases ra; exact ⟨is_ref_none, isnot_ref_none⟩
    · cases h
  · cases h
theorem notO_some {x : Option Bool} {c : Bool} (h : notO x = some c) : ∃ d, x = some d ∧ c = !d := by
  cases x with
  | none => cases h
  | some d => cases h; exact ⟨d, rfl, rfl⟩
theorem twoInts_some {a b : V} {f : Int → Int → Bool} {c : Bool} (h : twoInts a b f = some c) : ∃ x y, a = .int x ∧ b = .int y ∧ c = f x y := by
  unfold twoInts at h
  split at h
  · cases h; exact ⟨_, _, rfl, rfl, rfl⟩
  · cases h

theorem cmp_go {op : CmpOp} {a b : V} {va vb : Value} {c : Bool} {Q : Value → Shared → Prop} (R : Rep ns S₀ B cx st ρ s) (hu : A.units < cLine) (h : cmp op a b st = some c) (ra : VR ρ a va) (rb : VR ρ b vb)
    (q : Q (.bool c) s) : wpAny (model prog w) A (compareOp op va vb) Q E s := by
  unfold cmp at h
  split at h
  · obtain ⟨x, y, rfl, rfl, rfl⟩ := twoInts_some h
    cases ra; cases rb; exact lt_int q
  · obtain ⟨x, y, rfl, rfl, rfl⟩ := twoInts_some h
    cases ra; cases rb; exact le_int q
  · obtain ⟨x, y, rfl, rfl, rfl⟩ := twoInts_some h
    cases ra; cases rb; exact gt_int q
  · obtain ⟨x, y, rfl, rfl, rfl⟩ := twoInts_some h
    cases ra; cases rb; exact ge_int q
  · exact (eqV_go R hu h ra rb).1 q
  · obtain ⟨d, h2, rfl⟩ := notO_some h
    exact (eqV_go R hu h2 ra rb).2 q
  · exact (isNone_go h ra rb).1 q
  · obtain ⟨d, h2, rfl⟩ := notO_some h
    exact (isNone_go h2 ra rb).2 q
  · exact (inV_go R h ra rb).1 q
  · obtain ⟨d, h2, rfl⟩ := notO_some h
    exact (inV_go R h2 ra rb).2 q
theorem truth_go {v : V} {b : Bool} {x : Value} {Q : Bool → Shared → Prop} (h : truth v = some b) (r : VR ρ v x) (q : Q b s) : wpAny (model prog w) A (truthy x) Q E s := by
  unfold truth at h
  split at h
  · cases h; cases r; exact wpAny_truthy_bool q
  · cases h
end
end Mine
end

section
open PySem PySem.W PyProof.Rows PySem.Calls
set_option autoImplicit false
namespace Mine

theorem isStr_str (x y : Str) (t : Tok) : (Value.str x t).isStr y = eqS y x := by
  rw [eqS_beq]
  show (x == y) = _
  rw [Bool.eq_iff_iff]
  simp only [beq_iff_eq]
  exact ⟨Eq.symm, Eq.symm⟩

section
variable {ns : Par} {S₀ : Shared} {prog : Program} {w : World} {K : Frag} {B : Heap} {p : Program} {loose : List Str} {mean : ExcName → Option Value} {mg mb : Str → Option Value}
variable {cx : Cx} {fr : FI} {n : Nat} {st st' : St} {ρ ρ' : List Addr} {s : Shared} {A : Around} {E : Value → Shared → Prop}
variable {objs : List Obj} {fo hid : Hid} {m : Str → Option Value}

theorem er_find {fs : Loc} {es : List DictEntry} (h : A2 (ER ρ) fs es) (x : Str) :
    (∀ v, lk fs x = some v → ∃ e, es.find? (·.key.isStr x) = some e ∧ VR ρ v e.val) ∧ (lk fs x = none → es.find? (·.key.isStr x) = none) := by
  induction h with
  | nil => exact ⟨fun v e => (by rw [lk_nil] at e; cases e), fun _ => rfl⟩
  | @cons a b l m r _ ih =>
    obtain ⟨⟨t, hk⟩, hv⟩ := r
    rw [lk_cons, List.find?_cons, hk, isStr_str]
    cases q : eqS x a.1 with
    | true => exact ⟨fun v e => (by cases e; exact ⟨b, rfl, hv⟩), fun e => nomatch e⟩
    | false => exact ih
theorem er_noRef {fs : Loc} {es : List DictEntry} (h : A2 (ER ρ) fs es) : es.any (·.refKey) = false := by
  induction h with
  | nil => rfl
  | @cons a b l m r _ ih =>
    obtain ⟨⟨t, hk⟩, _⟩ := r
    rw [List.any_cons, ih]
    simp only [DictEntry.refKey, hk, Bool.or_false]
theorem er_get {fs : Loc} {es : List DictEntry} (h : A2 (ER ρ) fs es) {x : Str} : (∀ v, lk fs x = some v → ∃ V, getL x es = some (some V) ∧ VR ρ v V) ∧ (lk fs x = none → getL x es = some none) := by
  obtain ⟨a, b⟩ := er_find h x
  refine ⟨fun v e => ?_, fun e => ?_⟩
  · obtain ⟨d, e1, e2⟩ := a v e
    exact ⟨d.val, by unfold getL; rw [e1], e2⟩
  · unfold getL
    rw [b e, er_noRef h]
    rfl
theorem er_put {fs : Loc} {es : List DictEntry} (h : A2 (ER ρ) fs es) {x : Str} {v : V} {V : Value} (hv : VR ρ v V) (hsh : Int) (t : Tok) : A2 (ER ρ) (put x v fs) (putL x hsh (.str x t) V es) := by
  induction h with
  | nil => exact .cons ⟨⟨t, rfl⟩, hv⟩ .nil
  | @cons a b l m r hr ih =>
    obtain ⟨⟨u, hk⟩, hav⟩ := id r
    rw [put_cons]
    show A2 (ER ρ) _ (if b.key.isStr x then ⟨b.hash, b.key, V⟩ :: m else b :: putL x hsh (.str x t) V m)
    rw [hk, isStr_str]
    cases q : eqS a.1 x with
    | true =>
      have := eqS_true q
      rw [this, eqS_self]
      exact .cons ⟨⟨u, rfl⟩, hv⟩ hr
    | false =>
      have : eqS x a.1 = false := by
        cases q2 : eqS x a.1 with
        | false => rfl
        | true => rw [eqS_true q2, eqS_self] at q; cases q
      rw [this]
      exact .cons r ih
theorem put_len {x : Str} {v : V} : ∀ fs : Loc, (put x v fs).length ≤ fs.length + 1
  | [] => Nat.le_refl _
  | p :: r => by
    rw [put_cons]
    cases eqS p.1 x with
    | true => exact Nat.le_succ _
    | false => exact Nat.succ_le_succ (put_len r)

theorem fields_some {led : List O} {o : V} {d : Nat} {fs : Loc} (h : fields led o = some (d, fs)) : ∃ k, o = .loc k ∧ led[k]? = some (.inst d) ∧ led[d]? = some (.dict fs) := by
  unfold fields at h
  split at h
  · rename_i k
    rw [nth_eq] at h
    split at h
    · rename_i d' e
      rw [nth_eq] at h
      split at h
      · rename_i fs' e'
        cases h
        exact ⟨k, rfl, e, e'⟩
      · cases h
    · cases h
  · cases h

theorem RepX.inst (X : RepX ns S₀ B cx st ρ s objs fo hid m) {o : V} {d : Nat} {fs : Loc} {ov : Value} (h : fields st.led o = some (d, fs)) (r : VR ρ o ov) :
    ∃ k x dx sl es c, o = .loc k ∧ ov = .ref x ∧ ρ[d]? = some dx ∧ objs[d]? = some (dictOf es c) ∧ A2 (ER ρ) fs es ∧ fs.length ≤ 100 ∧ PySem.W.InstAt s.heap x ⟨.ref 147, some dx, .plain, sl⟩ 147 (some (dictOf es c)) := by
  obtain ⟨k, rfl, e1, e2⟩ := fields_some h
  cases r with | loc hk =>
  obtain ⟨o1, _, r1, g1⟩ := X.at e1 hk
  cases r1 with
  | @inst _ dx sl hd =>
  obtain ⟨o2, q2, r2, g2⟩ := X.at e2 hd
  cases r2 with
  | @dict _ es c a b => exact ⟨k, _, dx, sl, es, c, rfl, rfl, hd, q2, a, b, ⟨g1, rfl, rfl, g2⟩⟩

theorem handed_of {v : V} {V : Value} (h : VR ρ v V) : handedIn V = true := by
  cases h with
  | bi b => cases b <;> first | rfl | (show Option.isNone _ = true; kernel_rfl)
  | _ => rfl

theorem getAt_go {o v : V} {ov : Value} {x : Str} {expr : Bool} {Q : Value → Shared → Prop} (D : Wd w K B p loose mean mg mb) (R : Rep ns S₀ B cx st ρ s) (h : getAt st o x = some v) (r : VR ρ o ov)
    (q : ∀ V s', VR ρ v V → Rep ns S₀ B cx st ρ s' → Q V s') : wpAny (model prog w) A (getAttr ov x expr) Q E s := by
  unfold getAt at h
  split at h
  · rename_i hx
    obtain ⟨objs, fo, hid, m, X⟩ := R
    split at h
    · rename_i d fs hf
      obtain ⟨k, xa, dx, sl, es, c, rfl, rfl, _, _, a, _, I⟩ := X.inst hf r
      obtain ⟨V, e1, e2⟩ := (er_get a).1 v h
      obtain ⟨f1, f2⟩ := D.kf.fields x _ hx
      exact get_own X.F D.X I (D.kf.plain x) D.kf.dict f1 rfl e1 (handed_of e2) (q V _ e2 (Rep.tok ⟨_, _, _, _, X⟩ _))
    · cases h
  · cases h

theorem setAt_go {o v : V} {ov V : Value} {x : Str} {Q : Unit → Shared → Prop} (D : Wd w K B p loose mean mg mb) (R : Rep ns S₀ B cx st ρ s) (h : setAt st o x v = some st') (r : VR ρ o ov) (rv : VR ρ v V)
    (q : ∀ s', Rep ns S₀ B cx st' ρ s' → Q () s') : wpAny (model prog w) A (setAttr ov x V) Q E s := by
  unfold setAt at h
  split at h
  · rename_i hx
    obtain ⟨objs, fo, hid, m, X⟩ := R
    split at h
    · rename_i d fs hf
      split at h
      · rename_i hl
        cases h
        obtain ⟨k, xa, dx, sl, es, c, rfl, rfl, hd, hod, a, _, I⟩ := X.inst hf r
        obtain ⟨f1, f2⟩ := D.kf.fields x _ hx
        rw [len_eq] at hl
        have hl := Nat.le_of_ble_eq_true hl
        have p1 := er_put a rv (PyData.keyHash w.params x) (s.toks + 1) (x := x)
        have l1 : (put x v fs).length ≤ 51 := Nat.le_trans (put_len fs) (by omega)
        have g : (getL x es).isSome = true := by
          cases e : lk fs x with
          | none => rw [(er_get a).2 e]; rfl
          | some u => obtain ⟨V, e1, _⟩ := (er_get a).1 u e; rw [e1]; rfl
        refine PySem.W.set_dict X.F D.X X.N I rfl D.kf.seta D.kf.over f2 D.kf.dict g rfl (updL_upd X.nd (X.mem hd hod)) (by rw [← p1.length]; omega) fun h' F' N' => ?_
        rw [setL_eq] at q
        exact q _ ⟨_, _, _, _, X.upd (tk := s.toks + 2) hd F' N' (.dict p1 (by omega))⟩
      · cases h
    · cases h
  · cases h
end
end Mine
end

section
open PySem PySem.W PyProof.Rows PySem.Calls
set_option autoImplicit false
namespace Mine

/-- an exception of the text's own class, in the air -/
structure ExcX (B : Heap) (news : Hid) (L e : Addr) (c f : Int) (h : Heap) (dx : Addr) (oe : Obj) (vs : Array Value) (es : List DictEntry) (n : Nat) : Prop where
  there : h.get? e = some oe
  cls : oe.cls = .ref 31
  dict : oe.dict = some dx
  data : oe.data = .fields vs
  size : 1 < vs.size
  dat : h.get? dx = some (dictOf es n)
  code : ∃ t, getL "code" es = some (some (.int c t))
  frame : ∃ t, getL "frame_type" es = some (some (.int f t))
  newE : B.get? e = none
  offE : ∀ p ∈ news, p.1 ≠ e
  newD : B.get? dx = none
  offD : ∀ p ∈ news, p.1 ≠ dx
  eL : e ≠ L
  dL : dx ≠ L
structure TbX (B : Heap) (news : Hid) (L e : Addr) (h : Heap) (dx : Addr) (vs : Array Value) (fl : Value) (T : Addr) (oT : Obj) (ts : Array Value) : Prop where
  tb : vs[1]? = some (.ref T)
  there : h.get? T = some oT
  data : oT.data = .fields ts
  fl : ts[3]? = some fl
  ne : T ≠ e
  nd : T ≠ dx
  newT : B.get? T = none
  off : ∀ p ∈ news, p.1 ≠ T
  TL : T ≠ L
/-- made (no traceback yet), or with a traceback whose third field says where it is -/
noncomputable def Exc (B : Heap) (news : Hid) (L e : Addr) (c f : Int) (h : Heap) (fl : Option Value) : Prop :=
  ∃ dx oe vs es n, ExcX B news L e c f h dx oe vs es n ∧ match fl with
    | none => vs[1]? = some .none
    | some fl => ∃ T oT ts, TbX B news L e h dx vs fl T oT ts

structure Sys where
  ns : Par
  S₀ : Shared
  prog : Program
  w : World
  K : Frag
  B : Heap
  p : Program
  loose : List Str
  mean : ExcName → Option Value
  mg : Str → Option Value
  mb : Str → Option Value
  D : Wd w K B p loose mean mg mb
  pre : List Addr

namespace Sys
variable (Y : Sys)
noncomputable abbrev Rp (cx : Cx) (st : St) (ρ : List Addr) (s : Shared) : Prop := Rep Y.ns Y.S₀ Y.B cx st ρ s
noncomputable abbrev Gd (cx : Cx) (fr : FI) (n : Nat) (ρ : List Addr) : Prop := Good Y.B Y.pre cx fr n ρ
noncomputable abbrev wp {α : Type} (A : Around) (t : Sem α) (Q : α → Shared → Prop) (E : Value → Shared → Prop) (s : Shared) : Prop := wpAny (model Y.prog Y.w) A t Q E s
noncomputable def Fl (cx : Cx) (st : St) (ρ : List Addr) (c f : Int) (X : Value) (s : Shared) : Prop :=
  ∃ e objs fo hid m fl, X = .ref e ∧ RepX Y.ns Y.S₀ Y.B cx st ρ s objs fo hid m ∧ Exc Y.B (newsOf fo hid ρ objs) cx.L e c f s.heap fl ∧ (fl = none ∨ fl = some .none)

/-- what an answer owes -/
noncomputable def AnsV (cx : Cx) (v : V) (st : St) (ρ : List Addr) (Q : Value → Shared → Prop) : Prop := ∀ ρ' V s', Ext ρ ρ' → VR ρ' v V → Y.Rp cx st ρ' s' → Q V s'
noncomputable def AnsX (cx : Cx) (c f : Int) (st : St) (ρ : List Addr) (E : Value → Shared → Prop) : Prop := ∀ ρ' X s', Ext ρ ρ' → Y.Fl cx st ρ' c f X s' → E X s'
noncomputable def Ans (cx : Cx) (r : Res) (st : St) (ρ : List Addr) (Q : Value → Shared → Prop) (E : Value → Shared → Prop) : Prop := match r with
  | .ok v => Y.AnsV cx v st ρ Q
  | .ex c f => Y.AnsX cx c f st ρ E
noncomputable def AnsT (cx : Cx) (b : Bool) (st : St) (ρ : List Addr) (Q : Bool → Shared → Prop) : Prop := ∀ ρ' s', Ext ρ ρ' → Y.Rp cx st ρ' s' → Q b s'
noncomputable def AnsF (cx : Cx) (r : Flo) (st : St) (ρ : List Addr) (Q : Flow → Shared → Prop) (E : Value → Shared → Prop) : Prop := match r with
  | .next => ∀ ρ' s', Ext ρ ρ' → Y.Rp cx st ρ' s' → Q .next s'
  | .ret v => Y.AnsV cx v st ρ fun V => Q (.ret V)
  | .ex c f => Y.AnsX cx c f st ρ E

noncomputable def SE (n : Nat) (f : FI → Expr → St → Option (Res × St)) : Prop :=
  ∀ (cx : Cx) (fr : FI) (e : Expr) (st : St) (r : Res) (st' : St) (ρ : List Addr) (s : Shared) (Q : Value → Shared → Prop) (E : Value → Shared → Prop),
    f fr e st = some (r, st') → Y.Gd cx fr n ρ → Y.Rp cx st ρ s → Y.Ans cx r st' ρ Q E → Y.wp cx.A (eval e cx.env) Q E s
noncomputable def ST (n : Nat) (f : FI → Expr → St → Option (Bool × St)) : Prop :=
  ∀ (cx : Cx) (fr : FI) (e : Expr) (st : St) (b : Bool) (st' : St) (ρ : List Addr) (s : Shared) (Q : Bool → Shared → Prop) (E : Value → Shared → Prop),
    f fr e st = some (b, st') → Y.Gd cx fr n ρ → Y.Rp cx st ρ s → Y.AnsT cx b st' ρ Q → Y.wp cx.A (PySem.isTrue e cx.env (eval e cx.env)) Q E s
noncomputable def SX1 (n : Nat) (f : FI → Stmt → St → Option (Flo × St)) : Prop :=
  ∀ (cx : Cx) (fr : FI) (x : Stmt) (st : St) (r : Flo) (st' : St) (ρ : List Addr) (s : Shared) (Q : Flow → Shared → Prop) (E : Value → Shared → Prop),
    f fr x st = some (r, st') → Y.Gd cx fr n ρ → Y.Rp cx st ρ s → Y.AnsF cx r st' ρ Q E → Y.wp cx.A (exec x cx.env) Q E s
noncomputable def SX (n : Nat) (f : FI → List Stmt → St → Option (Flo × St)) : Prop :=
  ∀ (cx : Cx) (fr : FI) (x : List Stmt) (st : St) (r : Flo) (st' : St) (ρ : List Addr) (s : Shared) (Q : Flow → Shared → Prop) (E : Value → Shared → Prop),
    f fr x st = some (r, st') → Y.Gd cx fr n ρ → Y.Rp cx st ρ s → Y.AnsF cx r st' ρ Q E → Y.wp cx.A (execs x cx.env) Q E s
structure Snd (n : Nat) (r : Rec) : Prop where
  ev : Y.SE n r.ev
  ts : Y.ST n r.tst
  ex : Y.SX n r.exs

variable {Y}
theorem AnsV.ext {cx : Cx} {v : V} {st : St} {ρ ρ' : List Addr} {Q : Value → Shared → Prop} (h : Y.AnsV cx v st ρ Q) (e : Ext ρ ρ') : Y.AnsV cx v st ρ' Q := fun _ V s' x => h _ V s' (e.trans x)
theorem AnsX.ext {cx : Cx} {c f : Int} {st : St} {ρ ρ' : List Addr} {E : Value → Shared → Prop} (h : Y.AnsX cx c f st ρ E) (e : Ext ρ ρ') : Y.AnsX cx c f st ρ' E := fun _ V s' x => h _ V s' (e.trans x)
theorem Ans.ext {cx : Cx} {r : Res} {st : St} {ρ ρ' : List Addr} {Q : Value → Shared → Prop} {E : Value → Shared → Prop} (h : Y.Ans cx r st ρ Q E) (e : Ext ρ ρ') : Y.Ans cx r st ρ' Q E := by
  cases r with
  | ok v => exact AnsV.ext (Y := Y) h e
  | ex c f => exact AnsX.ext (Y := Y) h e
theorem AnsT.ext {cx : Cx} {b : Bool} {st : St} {ρ ρ' : List Addr} {Q : Bool → Shared → Prop} (h : Y.AnsT cx b st ρ Q) (e : Ext ρ ρ') : Y.AnsT cx b st ρ' Q := fun _ s' x => h _ s' (e.trans x)
theorem AnsF.ext {cx : Cx} {r : Flo} {st : St} {ρ ρ' : List Addr} {Q : Flow → Shared → Prop} {E : Value → Shared → Prop} (h : Y.AnsF cx r st ρ Q E) (e : Ext ρ ρ') : Y.AnsF cx r st ρ' Q E := by
  cases r with
  | next => exact fun _ s' x => h _ s' (e.trans x)
  | ret v => exact AnsV.ext (Y := Y) h e
  | ex c f => exact AnsX.ext (Y := Y) h e

section
variable {n : Nat} {r : Rec} {cx : Cx} {fr : FI} {st st' st₁ : St} {ρ : List Addr} {s : Shared} {E : Value → Shared → Prop}

/-- an operand: the whole goes on from where its value stands -/
theorem Snd.v (S : Y.Snd n r) {e : Expr} {v : V} {Q : Value → Shared → Prop} (h : evV r fr e st = some (v, st')) (G : Y.Gd cx fr n ρ) (R : Y.Rp cx st ρ s)
    (q : ∀ ρ' V s', Ext ρ ρ' → VR ρ' v V → Y.Rp cx st' ρ' s' → Y.Gd cx fr n ρ' → Q V s') : Y.wp cx.A (eval e cx.env) Q E s := by
  unfold evV at h
  split at h
  · rename_i v₁ st₁ e₁
    cases h
    exact S.ev cx fr e st (.ok v) st' ρ s Q E e₁ G R fun ρ' V s' x rv R' => q ρ' V s' x rv R' (G.ext x)
  · cases h
theorem Snd.t (S : Y.Snd n r) {e : Expr} {b : Bool} {Q : Bool → Shared → Prop} (h : r.tst fr e st = some (b, st')) (G : Y.Gd cx fr n ρ) (R : Y.Rp cx st ρ s)
    (q : ∀ ρ' s', Ext ρ ρ' → Y.Rp cx st' ρ' s' → Y.Gd cx fr n ρ' → Q b s') : Y.wp cx.A (PySem.isTrue e cx.env (eval e cx.env)) Q E s :=
  S.ts cx fr e st b st' ρ s Q E h G R fun ρ' s' x R' => q ρ' s' x R' (G.ext x)

theorem const_ok {c : Const} {k : Nat} {pos : Pos} {res : Res} {Q : Value → Shared → Prop} (h : evConst c st = some (res, st')) (R : Y.Rp cx st ρ s) (q : Y.Ans cx res st' ρ Q E) : Y.wp cx.A (eval (.Constant c k pos) cx.env) Q E s := by
  unfold evConst at h
  split at h
  · cases h; exact wpAny_Constant_int (q _ _ _ (Ext.refl _) (.int _ _) (R.tok _))
  · cases h; exact Constant_str (q _ _ _ (Ext.refl _) (.str _ _) (R.tok _))
  · cases h; exact Constant_bytes (q _ _ _ (Ext.refl _) (.bytes _ _) (R.tok _))
  · cases h; exact wpAny_Constant_bool (q _ _ _ (Ext.refl _) (.bool _) R)
  · cases h; exact wpAny_Constant_none (q _ _ _ (Ext.refl _) .none R)
  · cases h

theorem okV_some {x : Option (V × St)} {res : Res} (h : okV x = some (res, st')) : ∃ v, x = some (v, st') ∧ res = .ok v := by
  unfold okV at h
  split at h
  · cases h; exact ⟨_, rfl, rfl⟩
  · cases h

theorem bin_ok (S : Y.Snd n r) {l rr : Expr} {op : Operator} {pos : Pos} {res : Res} {Q : Value → Shared → Prop} (h : evBin r fr l op rr st = some (res, st')) (G : Y.Gd cx fr n ρ) (R : Y.Rp cx st ρ s) (q : Y.Ans cx res st' ρ Q E) :
    Y.wp cx.A (eval (.BinOp l op rr pos) cx.env) Q E s := by
  unfold evBin at h
  split at h
  · rename_i a st₁ h1
    split at h
    · rename_i b st₂ h2
      obtain ⟨v, h3, rfl⟩ := okV_some h
      refine wpAny_BinOp (S.v h1 G R fun ρ₁ V₁ s₁ x₁ r₁ R₁ G₁ => S.v h2 G₁ R₁ fun ρ₂ V₂ s₂ x₂ r₂ R₂ G₂ => ?_)
      exact binop_go R₂ h3 (r₁.ext x₂) r₂ fun ρ₃ V₃ s₃ x₃ r₃ R₃ => q _ _ _ ((x₁.trans x₂).trans x₃) r₃ R₃
    · cases h
  · cases h

theorem un_ok (S : Y.Snd n r) {x : Expr} {op : UnaryOp} {pos : Pos} {res : Res} {Q : Value → Shared → Prop} (h : evUn r fr op x st = some (res, st')) (G : Y.Gd cx fr n ρ) (R : Y.Rp cx st ρ s) (q : Y.Ans cx res st' ρ Q E) :
    Y.wp cx.A (eval (.UnaryOp op x pos) cx.env) Q E s := by
  unfold evUn at h
  split at h
  · rename_i ho
    split at h
    · rename_i v st₁ h1
      split at h
      · rename_i b h2
        cases h
        cases op <;> first | (cases ho; done) | skip
        refine UnaryOp_ (S.v h1 G R fun ρ₁ V₁ s₁ x₁ r₁ R₁ G₁ => not_of (truth_go h2 r₁ ?_))
        exact q _ _ _ x₁ (.bool _) R₁
      · cases h
    · cases h
  · cases h

theorem if_ok (S : Y.Snd n r) {t a b : Expr} {pos : Pos} {res : Res} {Q : Value → Shared → Prop} (h : evIf r fr t a b st = some (res, st')) (G : Y.Gd cx fr n ρ) (R : Y.Rp cx st ρ s) (q : Y.Ans cx res st' ρ Q E) :
    Y.wp cx.A (eval (.IfExp t a b pos) cx.env) Q E s := by
  unfold evIf at h
  split at h
  · rename_i c st₁ h1
    refine IfExp_ (S.t h1 G R fun ρ₁ s₁ x₁ R₁ G₁ => ?_)
    cases c with
    | true =>
      obtain ⟨v, h3, rfl⟩ := okV_some h
      exact S.v h3 G₁ R₁ fun ρ₂ V₂ s₂ x₂ r₂ R₂ _ => q _ _ _ (x₁.trans x₂) r₂ R₂
    | false =>
      obtain ⟨v, h3, rfl⟩ := okV_some h
      exact S.v h3 G₁ R₁ fun ρ₂ V₂ s₂ x₂ r₂ R₂ _ => q _ _ _ (x₁.trans x₂) r₂ R₂
  · cases h

theorem attr_ok {x attr : Str} {xp pos : Pos} {res : Res} {Q : Value → Shared → Prop} (h : evAttr fr x attr st = some (res, st')) (G : Y.Gd cx fr n ρ) (R : Y.Rp cx st ρ s) (q : Y.Ans cx res st' ρ Q E) :
    Y.wp cx.A (eval (.Attribute (.Name x xp) attr pos) cx.env) Q E s := by
  unfold evAttr at h
  split at h
  · rename_i ov h1
    split at h
    · rename_i v h2
      cases h
      exact Attribute_Name_ (name_go Y.D G R h1 fun V rv => getAt_go Y.D R h2 rv fun V' s' r' R' => q _ _ _ (Ext.refl _) r' R')
    · cases h
  · cases h

/-- a call's, a display's operands -/
theorem evs_nil (fr : FI) (st : St) : evs r fr [] st = some ([], st) := rfl
theorem evs_cons (fr : FI) (e : Expr) (es : List Expr) (st : St) : evs r fr (e :: es) st = match isStar e with
  | true => none
  | false => match evV r fr e st with
    | some (v, st) => match evs r fr es st with
      | some (vs, st) => some (v :: vs, st)
      | none => none
    | none => none := rfl
theorem starEach_cons {e : Expr} {es : List Expr} {env : Env} (h : isStar e = false) : starEach (e :: es) env = (false, eval e env) :: starEach es env := by
  cases e <;> first | rfl | cases h
theorem evs_go (S : Y.Snd n r) {pos : Pos} : ∀ {es : List Expr} {vs : List V} {st : St} {ρ : List Addr} {s : Shared} {Q : List Value → Shared → Prop}, evs r fr es st = some (vs, st') → Y.Gd cx fr n ρ → Y.Rp cx st ρ s →
    (∀ ρ' Vs s', Ext ρ ρ' → A2 (VR ρ') vs Vs → Y.Rp cx st' ρ' s' → Y.Gd cx fr n ρ' → Q Vs s') → Y.wp cx.A (spliced (backTo pos (starEach es cx.env))) Q E s
  | [], vs, st, ρ, s, Q, h, G, R, q => by
    rw [evs_nil] at h
    cases h
    exact spliced_none (q _ _ _ (Ext.refl _) .nil R G)
  | e :: es, vs, st, ρ, s, Q, h, G, R, q => by
    rw [evs_cons] at h
    split at h
    · cases h
    · rename_i hs
      split at h
      · rename_i v st₁ h1
        split at h
        · rename_i vs' st₂ h2
          cases h
          refine spliced_more (S.v h1 G R fun ρ₁ V₁ s₁ x₁ r₁ R₁ G₁ => evs_go S h2 G₁ R₁ fun ρ₂ Vs s₂ x₂ r₂ R₂ G₂ => ?_) (starEach_cons hs)
          exact q _ _ _ (x₁.trans x₂) (.cons (r₁.ext x₂) r₂) R₂ G₂
        · cases h
      · cases h

theorem tup_ok (S : Y.Snd n r) {es : List Expr} {k : Nat} {pos : Pos} {res : Res} {Q : Value → Shared → Prop} (h : evTup r fr es st = some (res, st')) (G : Y.Gd cx fr n ρ) (R : Y.Rp cx st ρ s) (q : Y.Ans cx res st' ρ Q E) :
    Y.wp cx.A (eval (.Tuple es k pos) cx.env) Q E s := by
  unfold evTup at h
  split at h
  · rename_i vs st₁ h1
    split at h
    · rename_i hz
      cases h
      refine Tuple_ (evs_go S h1 G R fun ρ₁ Vs s₁ x₁ r₁ R₁ G₁ => newTuple_go R₁ r₁ (by have := small_le hz; rw [← r₁.length]; omega) fun ρ₂ V s₂ x₂ r₂ R₂ => ?_)
      exact q _ _ _ (x₁.trans x₂) r₂ R₂
    · cases h
  · cases h
theorem lst_ok (S : Y.Snd n r) {es : List Expr} {pos : Pos} {res : Res} {Q : Value → Shared → Prop} (h : evLst r fr es st = some (res, st')) (G : Y.Gd cx fr n ρ) (R : Y.Rp cx st ρ s) (q : Y.Ans cx res st' ρ Q E) :
    Y.wp cx.A (eval (.List es pos) cx.env) Q E s := by
  unfold evLst at h
  split at h
  · rename_i vs st₁ h1
    split at h
    · rename_i hz
      cases h
      refine List_ (evs_go S h1 G R fun ρ₁ Vs s₁ x₁ r₁ R₁ G₁ => newList_go R₁ r₁ (by have := small_le hz; rw [← r₁.length]; omega) fun ρ₂ V s₂ x₂ r₂ R₂ => ?_)
      exact q _ _ _ (x₁.trans x₂) r₂ R₂
    · cases h
  · cases h
end
end Sys
end Mine
end

section
open PySem PySem.W PyProof.Rows PySem.Calls
set_option autoImplicit false
namespace Mine

/-! slices of bytes -/
theorem clamp_eq (n : Nat) (i : Int) : clipAt n i = clamp n i := by
  have h := clipAt_cast n i
  unfold clamp
  cases i with
  | ofNat k =>
    dsimp only
    have h0 : ¬ (Int.ofNat k < 0) := by simp
    rw [if_neg h0] at h
    cases e : Nat.ble k n with
    | true =>
      have := Nat.le_of_ble_eq_true e
      dsimp only
      rw [show Int.ofNat k = (k : Int) from rfl] at h ⊢
      rw [Int.max_def, Int.min_def] at h
      split at h <;> split at h <;> omega
    | false =>
      have : ¬ k ≤ n := fun z => by rw [Nat.ble_eq_true_of_le z] at e; cases e
      dsimp only
      rw [show Int.ofNat k = (k : Int) from rfl] at h ⊢
      rw [Int.max_def, Int.min_def] at h
      split at h <;> split at h <;> omega
  | negSucc k =>
    dsimp only
    have h0 : Int.negSucc k < 0 := Int.negSucc_lt_zero k
    rw [if_pos h0, Int.negSucc_eq, Int.max_def, Int.min_def] at h
    rw [Int.negSucc_eq]
    split at h <;> split at h <;> omega
theorem map_inj {f : UInt8 → Int} (hf : ∀ a b, f a = f b → a = b) : ∀ {x y : List UInt8}, x.map f = y.map f → x = y
  | [], [], _ => rfl
  | [], _ :: _, h => by cases h
  | _ :: _, [], h => by cases h
  | a :: x, b :: y, h => by
    rw [List.map_cons, List.map_cons, List.cons.injEq] at h
    rw [hf a b h.1, map_inj hf h.2]
theorem picked_list (b : List UInt8) (lo hi : Option Int) :
    KBy.picked b.toArray lo hi = ((b.drop (lo.elim 0 (clipAt b.length))).take (hi.elim b.length (clipAt b.length) - lo.elim 0 (clipAt b.length))).toArray := by
  have h := KBc.ints_picked (b := b.toArray) rfl lo hi
  rw [KBw.ints_length, List.size_toArray] at h
  unfold KBw.bInts at h
  rw [List.toList_toArray, ← List.map_drop, ← List.map_take] at h
  have := map_inj (fun a c e => UInt8.toNat_inj.mp (Int.ofNat.inj e)) h
  rw [← this, Array.toArray_toList]
noncomputable def partOf : V → Option (Option Int)
  | .none => some none
  | .int i => some (some i)
  | _ => none
theorem sliceOf_at {b c : List UInt8} {lo hi : V} (h : sliceOf b lo hi = some c) : ∃ l u, partOf lo = some l ∧ partOf hi = some u ∧ KBy.picked b.toArray l u = c.toArray := by
  unfold sliceOf at h
  rw [len_eq] at h
  split at h
  · split at h
    · rename_i j
      cases h
      refine ⟨none, some j, rfl, rfl, ?_⟩
      rw [picked_list, takeL_eq, ← clamp_eq]
      simp
    · cases h
  · rename_i i
    split at h
    · cases h
      refine ⟨some i, none, rfl, rfl, ?_⟩
      rw [picked_list, dropL_eq, ← clamp_eq]
      simp only [Option.elim_some, Option.elim_none]
      rw [List.take_of_length_le (by rw [List.length_drop]; omega)]
    · rename_i j
      cases h
      refine ⟨some i, some j, rfl, rfl, ?_⟩
      rw [picked_list, dropL_eq, takeL_eq, ← clamp_eq, ← clamp_eq]
      simp only [Option.elim_some]
      rw [List.drop_take]
    · cases h
  · cases h
theorem partOf_at {ρ : List Addr} {v : V} {x : Value} {l : Option Int} (h : partOf v = some l) (r : VR ρ v x) : IsPart x l := by
  unfold partOf at h
  split at h
  · cases h; cases r; exact .none
  · cases h; cases r; exact .int _ _
  · cases h

namespace Sys
variable {Y : Sys}
section
variable {n : Nat} {r : Rec} {cx : Cx} {fr : FI} {st st' st₁ : St} {ρ : List Addr} {s : Shared} {E : Value → Shared → Prop}

theorem cline {cx : Cx} (G : Y.Gd cx fr n ρ) : cx.A.units < cLine := by
  have := G.uni
  have : cLine = 9900 := by decide
  omega

theorem cmpV_go {op : CmpOp} {a b v : V} {va vb : Value} {Q : Value → Shared → Prop} (G : Y.Gd cx fr n ρ) (R : Y.Rp cx st ρ s) (h : cmpV op a b st = some v) (ra : VR ρ a va) (rb : VR ρ b vb)
    (q : ∀ V, VR ρ v V → Q V s) : Y.wp cx.A (compareOp op va vb) Q E s := by
  unfold cmpV at h
  split at h
  · split at h
    · rename_i ho
      cases h
      cases ra; cases rb
      cases op <;> first | (cases ho; done) | skip
      exact eq_int (q _ (.anyb _))
    · cases h
  · split at h
    · rename_i c hc
      cases h
      exact cmp_go R (cline G) hc ra rb (q _ (.bool _))
    · cases h
theorem set_no {e : Expr} (h : isSetE e = false) (op : CmpOp) : behindInMarks op e = false := by
  cases e <;> first | rfl | cases h
theorem cmp_ok (S : Y.Snd n r) {l : Expr} {ops : List CmpOp} {rs : List Expr} {pos : Pos} {res : Res} {Q : Value → Shared → Prop} (h : evCmp r fr l ops rs st = some (res, st')) (G : Y.Gd cx fr n ρ) (R : Y.Rp cx st ρ s) (q : Y.Ans cx res st' ρ Q E) :
    Y.wp cx.A (eval (.Compare l ops rs pos) cx.env) Q E s := by
  unfold evCmp at h
  split at h
  · rename_i op rr
    split at h
    · cases h
    · rename_i hs
      split at h
      · rename_i a st₁ h1
        split at h
        · rename_i b st₂ h2
          split at h
          · rename_i v h3
            cases h
            refine wpAny_Compare1 (S.v h1 G R fun ρ₁ V₁ s₁ x₁ r₁ R₁ G₁ => S.v h2 G₁ R₁ fun ρ₂ V₂ s₂ x₂ r₂ R₂ G₂ => ?_) (set_no hs op)
            exact cmpV_go G₂ R₂ h3 (r₁.ext x₂) r₂ fun V r₃ => q _ _ _ (x₁.trans x₂) r₃ R₂
          · cases h
        · cases h
      · cases h
  · cases h

theorem withSt_some {x : Option Bool} {b : Bool} (h : withSt x st = some (b, st')) : x = some b ∧ st = st' := by
  unfold withSt at h
  split at h
  · cases h; exact ⟨rfl, rfl⟩
  · cases h
theorem tcmp_ok (S : Y.Snd n r) {l : Expr} {ops : List CmpOp} {rs : List Expr} {pos : Pos} {b : Bool} {whole : Sem Value} {Q : Bool → Shared → Prop} (h : tsCmp r fr l ops rs st = some (b, st')) (G : Y.Gd cx fr n ρ) (R : Y.Rp cx st ρ s) (q : Y.AnsT cx b st' ρ Q) :
    Y.wp cx.A (PySem.isTrue (.Compare l ops rs pos) cx.env whole) Q E s := by
  unfold tsCmp at h
  split at h
  · rename_i op rr
    split at h
    · cases h
    · rename_i hs
      unfold tsOne at h
      split at h
      · rename_i a st₁ h1
        split at h
        · rename_i b₂ st₂ h2
          obtain ⟨h3, rfl⟩ := withSt_some h
          refine wpAny_isTrue_Compare1 (S.v h1 G R fun ρ₁ V₁ s₁ x₁ r₁ R₁ G₁ => S.v h2 G₁ R₁ fun ρ₂ V₂ s₂ x₂ r₂ R₂ G₂ => ?_) (set_no hs op)
          exact cmp_go R₂ (cline G₂) h3 (r₁.ext x₂) r₂ (wpAny_truthy_bool (q _ _ (x₁.trans x₂) R₂))
        · cases h
      · cases h
  · rename_i op op' rr r'
    split at h
    · cases h
    · rename_i hs
      unfold tsTwo at h
      split at h
      · rename_i a st₁ h1
        split at h
        · rename_i b₂ st₂ h2
          refine isTrue_chain (S.v h1 G R fun ρ₁ V₁ s₁ x₁ r₁ R₁ G₁ => test_link (S.v h2 G₁ R₁ fun ρ₂ V₂ s₂ x₂ r₂ R₂ G₂ => ?_)) (set_no hs op')
          split at h
          · rename_i h3
            split at h
            · rename_i c st₃ h4
              obtain ⟨h5, rfl⟩ := withSt_some h
              refine cmp_go R₂ (cline G₂) h3 (r₁.ext x₂) r₂ (wpAny_truthy_bool ?_)
              rw [if_pos rfl]
              refine test_last (S.v h4 G₂ R₂ fun ρ₃ V₃ s₃ x₃ r₃ R₃ G₃ => ?_)
              exact cmp_go R₃ (cline G₃) h5 (r₂.ext x₃) r₃ (wpAny_truthy_bool (q _ _ ((x₁.trans x₂).trans x₃) R₃))
            · cases h
          · rename_i h3
            cases h
            refine cmp_go R₂ (cline G₂) h3 (r₁.ext x₂) r₂ (wpAny_truthy_bool ?_)
            rw [if_neg (by decide)]
            exact q _ _ (x₁.trans x₂) R₂
          · cases h
        · cases h
      · cases h
  · cases h

theorem boolV_cons (fr : FI) (op : BoolOp) (e : Expr) (rest : List Expr) (st : St) : boolV r fr op (e :: rest) st = match evV r fr e st with
  | some (v, st) => match rest with
    | [] => some (v, st)
    | _ :: _ => match truth v with
      | some b => match b == isAnd op with
        | true => boolV r fr op rest st
        | false => some (v, st)
      | none => none
  | none => none := rfl
theorem boolV_ok (S : Y.Snd n r) {op : BoolOp} {pos : Pos} : ∀ {es : List Expr} {v : V} {st : St} {ρ : List Addr} {s : Shared} {Q : Value → Shared → Prop}, boolV r fr op es st = some (v, st') → Y.Gd cx fr n ρ → Y.Rp cx st ρ s → Y.AnsV cx v st' ρ Q →
    Y.wp cx.A (eval (.BoolOp op es pos) cx.env) Q E s := by
  intro es
  induction es with
  | nil => intro v st ρ s Q h G R q; cases h
  | cons e rest ih =>
    intro v st ρ s Q h G R q
    rw [boolV_cons] at h
    split at h
    · rename_i v₁ st₁ h1
      split at h
      · cases h
        exact BoolOp_one (S.v h1 G R fun ρ₁ V₁ s₁ x₁ r₁ R₁ G₁ => q _ _ _ x₁ r₁ R₁)
      · split at h
        · rename_i b h2
          cases op with
          | And =>
            refine BoolOp_and (S.v h1 G R fun ρ₁ V₁ s₁ x₁ r₁ R₁ G₁ => truth_go h2 r₁ ?_)
            cases b with
            | true => exact ih h G₁ R₁ (AnsV.ext q x₁)
            | false => cases h; exact q _ _ _ x₁ r₁ R₁
          | Or =>
            refine BoolOp_or (S.v h1 G R fun ρ₁ V₁ s₁ x₁ r₁ R₁ G₁ => truth_go h2 r₁ ?_)
            cases b with
            | true => cases h; exact q _ _ _ x₁ r₁ R₁
            | false => exact ih h G₁ R₁ (AnsV.ext q x₁)
        · cases h
    · cases h
theorem boolT_cons (fr : FI) (op : BoolOp) (e : Expr) (rest : List Expr) (st : St) : boolT r fr op (e :: rest) st = match r.tst fr e st with
  | some (b, st) => match b == isAnd op with
    | true => boolT r fr op rest st
    | false => some (b, st)
  | none => none := rfl
theorem boolT_ok (S : Y.Snd n r) {op : BoolOp} {pos : Pos} {whole : Sem Value} : ∀ {es : List Expr} {b : Bool} {st : St} {ρ : List Addr} {s : Shared} {Q : Bool → Shared → Prop}, boolT r fr op es st = some (b, st') → Y.Gd cx fr n ρ → Y.Rp cx st ρ s → Y.AnsT cx b st' ρ Q →
    Y.wp cx.A (PySem.isTrue (.BoolOp op es pos) cx.env whole) Q E s
  | [], b, st, ρ, s, Q, h, G, R, q => by
    cases h
    cases op with
    | And => exact isTrue_and_nil (q _ _ (Ext.refl _) R)
    | Or => exact isTrue_or_nil (q _ _ (Ext.refl _) R)
  | e :: rest, b, st, ρ, s, Q, h, G, R, q => by
    rw [boolT_cons] at h
    split at h
    · rename_i c st₁ h1
      cases op with
      | And =>
        refine isTrue_and (S.t h1 G R fun ρ₁ s₁ x₁ R₁ G₁ => ?_)
        cases c with
        | true => exact boolT_ok S h G₁ R₁ (AnsT.ext q x₁)
        | false => cases h; exact q _ _ x₁ R₁
      | Or =>
        refine isTrue_or (S.t h1 G R fun ρ₁ s₁ x₁ R₁ G₁ => ?_)
        cases c with
        | true => cases h; exact q _ _ x₁ R₁
        | false => exact boolT_ok S h G₁ R₁ (AnsT.ext q x₁)
    · cases h
theorem tnot_ok (S : Y.Snd n r) {x : Expr} {op : UnaryOp} {pos : Pos} {b : Bool} {whole : Sem Value} {Q : Bool → Shared → Prop} (h : tsNot r fr op x st = some (b, st')) (G : Y.Gd cx fr n ρ) (R : Y.Rp cx st ρ s) (q : Y.AnsT cx b st' ρ Q) :
    Y.wp cx.A (PySem.isTrue (.UnaryOp op x pos) cx.env whole) Q E s := by
  unfold tsNot at h
  split at h
  · rename_i ho
    split at h
    · rename_i c st₁ h1
      cases h
      cases op <;> first | (cases ho; done) | skip
      exact isTrue_not (S.t h1 G R fun ρ₁ s₁ x₁ R₁ G₁ => q _ _ x₁ R₁)
    · cases h
  · cases h
end
end Sys
end Mine
end

section
open PySem PySem.W PyProof.Rows PySem.Calls
set_option autoImplicit false
namespace Mine
namespace Sys
variable {Y : Sys}
section
variable {n : Nat} {r : Rec} {cx : Cx} {fr : FI} {st st' st₁ : St} {ρ : List Addr} {s : Shared} {E : Value → Shared → Prop}

theorem part_go (S : Y.Snd n r) {e : Option Expr} {v : V} {Q : Value → Shared → Prop} (h : part r fr e st = some (v, st')) (G : Y.Gd cx fr n ρ) (R : Y.Rp cx st ρ s)
    (q : ∀ ρ' V s', Ext ρ ρ' → VR ρ' v V → Y.Rp cx st' ρ' s' → Y.Gd cx fr n ρ' → Q V s') : Y.wp cx.A (evalPart e cx.env) Q E s := by
  unfold part at h
  split at h
  · cases h
    exact evalPart_none_step (q _ _ _ (Ext.refl _) .none R G)
  · exact evalPart_some_step (S.v h G R q)

theorem slice_go {b c : List UInt8} {lo hi : V} {vl vh vb : Value} {value : Expr} {el eh : Option Expr} {p : Pos} {Q : Value → Shared → Prop} (R : Y.Rp cx st ρ s) (hz : b.length ≤ 1000) (h : sliceOf b lo hi = some c)
    (rl : VR ρ lo vl) (rh : VR ρ hi vh) (rb : VR ρ (.bytes b) vb) (q : ∀ V s', VR ρ (.bytes c) V → Y.Rp cx st ρ s' → Q V s') :
    Y.wp cx.A (subscriptTail value (.Slice el eh none p) vb (.ref s.heap.objs.size)) Q E { s with heap := s.heap.push { cls := .type "slice", data := .fields #[vl, vh, .none] } } := by
  obtain ⟨l, u, h1, h2, h3⟩ := sliceOf_at h
  cases rb with
  | bytes _ t =>
  obtain ⟨objs, fo, hid, m, X⟩ := R
  refine tail_any (T := "bytes") (ops := [.ref s.heap.objs.size, .bytes b.toArray t]) (typeIs_bytes _ _ _) FB.slot_bytes_getitem.lookup ?_ rfl
  refine getItem_meets (typeIs_bytes _ _ _) (by decide) FB.slot_bytes_getitem FB.entry_bytes_getitem (FB.args_bytes_getitem_2 _ _) (KBc.meets_slice2 b.toArray t _ (partOf_at h1 rl) (partOf_at h2 rh)) ?_
  refine ⟨Heap.IsSliceOf.new _ _ _ _, Nat.le_trans (KBc.size_picked_le _ _ _) (by rw [List.size_toArray, sizeLine_eq]; omega), fun t' k => ?_⟩
  rw [h3]
  exact q _ _ (.bytes _ _) ⟨_, _, _, _, X.re (X.F.push _) (News.pushKeep X.N _)⟩

theorem slice_ok (S : Y.Snd n r) {value : Expr} {lo hi : Option Expr} {p pos : Pos} {res : Res} {Q : Value → Shared → Prop} (h : evSlice r fr value lo hi st = some (res, st')) (G : Y.Gd cx fr n ρ) (R : Y.Rp cx st ρ s) (q : Y.Ans cx res st' ρ Q E) :
    Y.wp cx.A (eval (.Subscript value (.Slice lo hi none p) pos) cx.env) Q E s := by
  unfold evSlice at h
  split at h
  · rename_i b st₁ h1
    split at h
    · rename_i l st₂ h2
      split at h
      · rename_i u st₃ h3
        split at h
        · rename_i hz
          split at h
          · rename_i c h4
            cases h
            refine Subscript_ (S.v h1 G R fun ρ₁ V₁ s₁ x₁ r₁ R₁ G₁ => wpAny_Slice (part_go S h2 G₁ R₁ fun ρ₂ V₂ s₂ x₂ r₂ R₂ G₂ => part_go S h3 G₂ R₂ fun ρ₃ V₃ s₃ x₃ r₃ R₃ G₃ => evalPart_none_step ?_))
            exact slice_go R₃ (small_le hz) h4 (r₂.ext x₃) r₃ (r₁.ext (x₂.trans x₃)) fun V s' r' R' => q _ _ _ ((x₁.trans x₂).trans x₃) r' R'
          · cases h
        · cases h
      · cases h
    · cases h
  · cases h

theorem a2_nth {xs : List V} {vs : List Value} (h : A2 (VR ρ) xs vs) {k : Nat} {v : V} (e : xs[k]? = some v) : ∃ V, vs.toArray[k]? = some V ∧ VR ρ v V := by
  obtain ⟨V, e1, e2⟩ := h.left e
  exact ⟨V, by rw [List.getElem?_toArray, e1], e2⟩
noncomputable def idxSlice : Expr → Bool
  | .Name .. => true
  | .IfExp .. => true
  | _ => false
theorem idx_ok (S : Y.Snd n r) {value slice : Expr} {pos : Pos} {res : Res} {Q : Value → Shared → Prop} (hs : idxSlice slice = true) (h : evIdx r fr value slice st = some (res, st')) (G : Y.Gd cx fr n ρ) (R : Y.Rp cx st ρ s) (q : Y.Ans cx res st' ρ Q E) :
    Y.wp cx.A (eval (.Subscript value slice pos) cx.env) Q E s := by
  unfold evIdx at h
  split at h
  · rename_i k st₁ h1
    split at h
    · rename_i i st₂ h2
      split at h
      · rename_i v h3
        cases h
        refine Subscript_ (S.v h1 G R fun ρ₁ V₁ s₁ x₁ r₁ R₁ G₁ => S.v h2 G₁ R₁ fun ρ₂ V₂ s₂ x₂ r₂ R₂ G₂ => ?_)
        have r₁' := r₁.ext x₂
        rw [nth_eq] at h3
        unfold idxAt at h3
        split at h3
        · rename_i xs e
          split at h3
          · rename_i hb
            obtain ⟨b1, b2⟩ := Bool.and_eq_true_iff.mp hb
            have b1 := of_decide_eq_true b1
            have b2 := of_decide_eq_true b2
            rw [nth_eq] at h3
            cases r₁' with | @loc _ la hk => cases r₂ with | int _ t =>
            obtain ⟨objs, fo, hid, m, X⟩ := id R₂
            obtain ⟨vs, c, r3, _, _, l1⟩ := X.list e hk
            obtain ⟨V, e1, e2⟩ := a2_nth r3 h3
            refine tail_any (T := "list") (ops := [.ref la, .int i t]) l1.typeIs F.slot_list_getitem.lookup (wpAny_getItem_list l1 b1 (by omega) e1 (q _ _ _ (x₁.trans x₂) e2 R₂)) ?_
            cases slice <;> first | rfl | cases hs
          · cases h3
        · cases h3
      · cases h
    · cases h
  · cases h
end
end Sys
end Mine
end

section
open PySem PySem.W PyProof.Rows PySem.Calls
set_option autoImplicit false
namespace Mine

theorem news_updL {B : Heap} {L d : Addr} {h h' : Heap} {o o' : Obj} {news : Hid} (N : News B L h news) (nd : (news.map (·.1)).Nodup) (hm : (d, o) ∈ news) (hs : Heap.SameBut d h h') (ho : h'.get? d = some o') : News B L h' (updL d o' news) := by
  obtain ⟨pre, post, e1, e2, a, b⟩ := (updL_upd (o' := o') nd hm).split
  rw [e2]
  rw [e1] at N
  exact news_set N a b hs ho

namespace Sys
variable {Y : Sys}
section
variable {n : Nat} {r : Rec} {cx : Cx} {fr : FI} {st st' st₁ : St} {ρ : List Addr} {s : Shared} {E : Value → Shared → Prop}

theorem lk_names (G : Y.Gd cx fr n ρ) (x : Str) : cx.env.kindOf x = lk fr.names x := by
  rw [lk_lookup, ← G.names]; rfl

/-- a name stored -/
theorem store_go {x : Str} {v : V} {V : Value} {A : Around} {Q : Unit → Shared → Prop} (G : Y.Gd cx fr n ρ) (R : Y.Rp cx st ρ s) (h : store fr st x v = some st') (rv : VR ρ v V)
    (q : ∀ s', Y.Rp cx st' ρ s' → Q () s') : Y.wp A (storeName cx.env x V) Q E s := by
  obtain ⟨objs, fo, hid, m, X⟩ := R
  unfold store at h
  rw [← lk_names G] at h
  split at h
  · rename_i hk
    cases h
    refine wpAny_storeName_local (m := m) hk (by rw [G.loc]; exact X.F.ns) (fun h' hn hs => ?_) (by rw [G.kind]; rfl)
    rw [G.loc] at hn hs
    exact q _ ⟨_, _, _, _, X.locals (tk := s.toks + 1) (X.F.set hn hs) (X.N.set hs) (X.loc.put rv)⟩
  · rename_i hk
    split at h
    · rename_i k hkc
      rw [nth_eq] at h
      split at h
      · rename_i c₀ hc
        cases h
        obtain ⟨c, e1, e2⟩ := G.cell hkc
        obtain ⟨o, ho, hor, hho⟩ := X.at hc e2
        have hcell : ∃ v₀, o.data = .cell v₀ := by cases hor <;> exact ⟨_, by assumption⟩
        obtain ⟨v₀, hd⟩ := hcell
        refine wpAny_storeName_cell G.kind hk e1 ⟨o, hho, hd⟩ fun h' hc' hs => ?_
        obtain ⟨o', ho', hd'⟩ := hc'
        have z := X.N _ (X.mem e2 ho)
        rw [setL_eq] at q
        exact q _ ⟨_, _, _, _, X.upd (tk := s.toks) e2 (X.F.change hs z.2.1 z.2.2) (news_updL X.N X.nd (X.mem e2 ho) hs ho') (.cell rv hd')⟩
      · cases h
    · cases h
  · cases h

theorem bind_go {x : Str} {v : V} {V : Value} {A : Around} {Q : Unit → Shared → Prop} (G : Y.Gd cx fr n ρ) (R : Y.Rp cx st ρ s) (h : store fr st x v = some st') (rv : VR ρ v V)
    (q : ∀ s', Y.Rp cx st' ρ s' → Q () s') : Y.wp A (bindName cx.env x V) Q E s := by
  unfold bindName
  exact wpAny_bind (wpAny_holding (wpAny_point (wpAny_bind (store_go G R h rv fun s' R' => wpAny_point (q s' R')))))

theorem storeAll_go {A : Around} : ∀ {xs : List Str} {vs : List V} {Vs : List Value} {st : St} {s : Shared} {Q : Unit → Shared → Prop}, Y.Gd cx fr n ρ → Y.Rp cx st ρ s → storeAll fr xs vs st = some st' → A2 (VR ρ) vs Vs →
    (∀ s', Y.Rp cx st' ρ s' → Q () s') → Y.wp A (assignInOrder (xs.map fun x => bindName cx.env x) Vs) Q E s
  | [], [], _, st, s, Q, G, R, h, r, q => by
    cases h
    exact wpAny_pure (q s R)
  | x :: xs, v :: vs, _, st, s, Q, G, R, h, r, q => by
    cases r with
    | cons rv r =>
    unfold storeAll at h
    split at h
    · rename_i st₁ h1
      exact assignInOrder_cons (bind_go G R h1 rv fun s₁ R₁ => storeAll_go G R₁ h r q)
    · cases h
  | [], _ :: _, _, _, _, _, _, _, h, _, _ => by cases h
  | _ :: _, [], _, _, _, _, _, _, h, _, _ => by cases h
theorem storeAll_len : ∀ {xs : List Str} {vs : List V} {st : St}, storeAll fr xs vs st = some st' → xs.length = vs.length
  | [], [], _, _ => rfl
  | x :: xs, v :: vs, st, h => by
    unfold storeAll at h
    split at h
    · rw [List.length_cons, List.length_cons, storeAll_len h]
    · cases h
  | [], _ :: _, _, h => by cases h
  | _ :: _, [], _, h => by cases h

theorem items_some {led : List O} {v : V} {its : List V} (h : items led v = some its) : ∃ k, v = .loc k ∧ led[k]? = some (.tuple its) := by
  unfold items at h
  split at h
  · rename_i k
    rw [nth_eq] at h
    unfold itemsOf at h
    split at h
    · rename_i xs e
      cases h
      exact ⟨k, rfl, e⟩
    · cases h
  · cases h
theorem names_some : ∀ {ts : List Expr} {xs : List Str}, names? ts = some xs → (assignEach ts cx.env).length = xs.length ∧ (assignEach ts cx.env).findIdx? (·.1) = none ∧ ts.length = xs.length
  | [], xs, h => by cases h; exact ⟨rfl, rfl, rfl⟩
  | t :: ts, xs, h => by
    cases t <;> first | (unfold names? at h; cases h; done) | skip
    unfold names? at h
    split at h
    · rename_i ys e
      cases h
      obtain ⟨a, b, c⟩ := names_some e
      refine ⟨?_, ?_, ?_⟩
      · show (_ :: assignEach ts cx.env).length = _
        rw [List.length_cons, List.length_cons, a]
      · show List.findIdx? _ ((false, _) :: assignEach ts cx.env) = none
        rw [List.findIdx?_cons, b]; rfl
      · rw [List.length_cons, List.length_cons, c]
    · cases h
/-- a target's parts, each a name -/
theorem each_go {A : Around} : ∀ {ts : List Expr} {xs : List Str} {vs : List V} {Vs : List Value} {st : St} {s : Shared} {Q : Unit → Shared → Prop}, names? ts = some xs → Y.Gd cx fr n ρ → Y.Rp cx st ρ s → storeAll fr xs vs st = some st' → A2 (VR ρ) vs Vs →
    (∀ s', Y.Rp cx st' ρ s' → Q () s') → Y.wp A (assignInOrder ((assignEach ts cx.env).map (·.2)) Vs) Q E s
  | [], xs, vs, Vs, st, s, Q, hx, G, R, h, r, q => by
    cases hx
    cases vs with
    | nil => cases h; exact wpAny_pure (q s R)
    | cons _ _ => cases h
  | t :: ts, xs, vs, Vs, st, s, Q, hx, G, R, h, r, q => by
    cases t <;> first | (unfold names? at hx; cases hx; done) | skip
    unfold names? at hx
    split at hx
    · rename_i ys e
      cases hx
      cases vs with
      | nil => cases h
      | cons v vs =>
      cases r with
      | cons rv r =>
      unfold storeAll at h
      split at h
      · rename_i st₁ h1
        refine assignInOrder_cons ?_
        exact wpAny_bind (wpAny_standAt (bind_go G R h1 rv fun s₁ R₁ => each_go e G R₁ h r q))
      · cases h
    · cases hx
end
end Sys
end Mine
end

section
open PySem PySem.W PyProof.Rows PySem.Calls
set_option autoImplicit false
namespace Mine

theorem loose_no {e : Expr} (h : loose e = true) : foldedForSure 8 e = false ∧ constantsAlone 8 e = false := by
  unfold loose at h
  split at h
  · exact ⟨rfl, rfl⟩
  · exact ⟨rfl, rfl⟩
  · rename_i x p op rr pos
    refine ⟨rfl, ?_⟩
    have h1 : isDebug x = false := by cases q : isDebug x with | false => rfl | true => rw [q] at h; cases h
    have h2 := (Bool.or_eq_false_iff.mp h1).1
    rw [eqS_beq] at h2
    show ((x == ("__debug__" : Str)) && _) = false
    rw [h2]; rfl
  · cases h
theorem any_all {f g : Expr → Bool} (hk : ∀ e, f e = true → g e = false) : ∀ {l : List Expr}, l.any f = true → l.all g = false
  | [], h => by cases h
  | e :: l, h => by
    rw [List.any_cons, Bool.or_eq_true] at h
    rw [List.all_cons]
    rcases h with h | h
    · rw [hk e h]; rfl
    · rw [any_all hk h, Bool.and_false]

namespace Sys
variable {Y : Sys}
section
variable {n : Nat} {r : Rec} {cx : Cx} {fr : FI} {st st' st₁ : St} {ρ : List Addr} {s : Shared} {E : Value → Shared → Prop}

theorem comp_no {e : Expr} (h : isComp e = false) (t : Option Expr) (l : Nat) (env : Env) : swapsWith e t l env = pure false := by
  cases e <;> first | rfl | cases h
theorem kind_not (G : Y.Gd cx fr n ρ) : interactive cx.env = false := by
  unfold interactive
  rw [G.kind]; rfl

theorem isLoc_some {k : Option NameKind} (h : isLoc k = true) : k = some .local := by
  unfold isLoc at h
  split at h
  · rfl
  · cases h
noncomputable def nameAt (env : Env) (line : Nat) : Expr → Option Str := fun
  | .Name id pos => if env.kindOf id == some .local && pos.line == line then some id else none
  | _ => none
theorem names_all (G : Y.Gd cx fr n ρ) {l : Nat} : ∀ {ts : List Expr} {xs : List Str}, names? ts = some xs → allLoc fr.names xs = true → sameLines l ts = true → ts.filterMap (nameAt cx.env l) = xs
  | [], xs, h, _, _ => by cases h; rfl
  | t :: ts, xs, h, ha, hl => by
    cases t <;> first | (unfold names? at h; cases h; done) | skip
    rename_i x p
    unfold names? at h
    split at h
    · rename_i ys e
      cases h
      unfold allLoc at ha
      split at ha
      · rename_i hx
        unfold sameLines at hl
        split at hl
        · rename_i hp
          have h1 := isLoc_some hx
          rw [← lk_names G] at h1
          have h2 : p.line = l := Nat.eq_of_beq_eq_true hp
          have h3 : nameAt cx.env l (.Name x p) = some x := by
            show (if ((cx.env.kindOf x == some .local) && p.line == l) = true then some x else none) = some x
            rw [h1, h2, beq_self_eq_true l]
            rfl
          rw [List.filterMap_cons, h3, names_all G e ha hl]
        · cases hl
      · cases ha
    · cases h
theorem names_few (G : Y.Gd cx fr n ρ) {l : Nat} : ∀ {ts : List Expr} {xs : List Str}, names? ts = some xs → allLoc fr.names xs = false → (ts.filterMap (nameAt cx.env l)).length < ts.length
  | [], xs, h, ha => by cases h; cases ha
  | t :: ts, xs, h, ha => by
    cases t <;> first | (unfold names? at h; cases h; done) | skip
    rename_i x p
    have le : (ts.filterMap (nameAt cx.env l)).length ≤ ts.length := List.length_filterMap_le ..
    unfold names? at h
    split at h
    · rename_i ys e
      cases h
      unfold allLoc at ha
      split at ha
      · have := names_few G (l := l) e ha
        rw [List.filterMap_cons]
        split
        · rw [List.length_cons]; omega
        · rw [List.length_cons, List.length_cons]; omega
      · rename_i hx
        have h3 : nameAt cx.env l (.Name x p) = none := by
          unfold nameAt
          have : (cx.env.kindOf x == some .local) = false := by
            rw [lk_names G]
            cases q : lk fr.names x with
            | none => rfl
            | some k =>
              rw [q] at hx
              cases k <;> first | rfl | cases hx
          simp only [this, Bool.false_and]
          rfl
        rw [List.filterMap_cons, h3, List.length_cons]
        show (ts.filterMap (nameAt cx.env l)).length < _
        omega
    · cases h

theorem swapped_eq (env : Env) (ts vs : List Expr) (k k' : Nat) (tp p' : Pos) : swappedStores [.Tuple ts k tp] (.Tuple vs k' p') env =
    if (!(ts.length == 2 || ts.length == 3) || vs.length != ts.length || env.blockKind != .function) = true then pure none
    else if (vs.any isStar) = true then pure none
    else if ((ts.filterMap (nameAt env ((ts.head?.map (·.pos.line)).getD 0))).length != ts.length || (ts.filterMap (nameAt env ((ts.head?.map (·.pos.line)).getD 0))).eraseDups.length != (ts.filterMap (nameAt env ((ts.head?.map (·.pos.line)).getD 0))).length) = true then pure none
    else if vs.all (foldedForSure 8) = true then pure none
    else if vs.all (constantsAlone 8) = true then (do unsupported "assign.tuple-of-constant-expressions:order-of-the-stores"; pure (some (ts.filterMap (nameAt env ((ts.head?.map (·.pos.line)).getD 0)))))
    else pure (some (ts.filterMap (nameAt env ((ts.head?.map (·.pos.line)).getD 0)))) := rfl

theorem swap_no (G : Y.Gd cx fr n ρ) {ts : List Expr} {xs : List Str} {value : Expr} {k : Nat} {tp : Pos} (hx : names? ts = some xs) (h : swapOf fr ts xs value = some false) : swappedStores [.Tuple ts k tp] value cx.env = pure none := by
  unfold swapOf at h
  split at h
  · rename_i vs k' p'
    split at h
    · rename_i ha
      have hlt := names_few G (l := (ts.head?.map (·.pos.line)).getD 0) hx ha
      rw [swapped_eq]
      split
      · rfl
      · split
        · rfl
        · rw [if_pos]
          rw [Bool.or_eq_true, bne_iff_ne]
          left
          omega
    · split at h <;> cases h
  · rename_i hv
    cases value <;> first | rfl | exact absurd rfl (hv _ _ _)

theorem head_line {ts : List Expr} {xs : List Str} (hx : names? ts = some xs) (h : ts ≠ []) : (ts.head?.map (·.pos.line)).getD 0 = headLine ts := by
  cases ts with
  | nil => exact absurd rfl h
  | cons t ts =>
    cases t <;> first | (unfold names? at hx; cases hx; done) | rfl
theorem two_three {ts vs : List Expr} (h : twoThree ts vs = true) : (!(ts.length == 2 || ts.length == 3) || vs.length != ts.length) = false ∧ ts ≠ [] := by
  unfold twoThree at h
  split at h
  · exact ⟨rfl, List.cons_ne_nil _ _⟩
  · exact ⟨rfl, List.cons_ne_nil _ _⟩
  · cases h
theorem apart_dups {xs : List Str} (h : apart xs = true) : xs.eraseDups.length = xs.length := by
  unfold apart at h
  split at h
  · rename_i x y
    have h1 : x ≠ y := fun e => by rw [e, eqS_self] at h; cases h
    have : (y == x) = false := beq_eq_false_iff_ne.mpr (Ne.symm h1)
    simp [List.eraseDups_cons, this, List.filter]
  · rename_i x y z
    rw [Bool.and_eq_true, Bool.and_eq_true] at h
    have h1 : x ≠ y := fun e => by rw [e, eqS_self] at h; exact absurd h.1.1 (by decide)
    have h2 : x ≠ z := fun e => by rw [e, eqS_self] at h; exact absurd h.1.2 (by decide)
    have h3 : y ≠ z := fun e => by rw [e, eqS_self] at h; exact absurd h.2 (by decide)
    have e1 : (y == x) = false := beq_eq_false_iff_ne.mpr (Ne.symm h1)
    have e2 : (z == x) = false := beq_eq_false_iff_ne.mpr (Ne.symm h2)
    have e3 : (z == y) = false := beq_eq_false_iff_ne.mpr (Ne.symm h3)
    simp [List.eraseDups_cons, e1, e2, e3, List.filter]
  · cases h
theorem block_fn (G : Y.Gd cx fr n ρ) : (cx.env.blockKind != .function) = false := by
  unfold Env.blockKind
  rw [G.kind]; rfl
theorem swap_yes (G : Y.Gd cx fr n ρ) {ts : List Expr} {xs : List Str} {value : Expr} {k : Nat} {tp : Pos} (hx : names? ts = some xs) (h : swapOf fr ts xs value = some true) : swappedStores [.Tuple ts k tp] value cx.env = pure (some xs) := by
  unfold swapOf at h
  split at h
  · rename_i vs k' p'
    split at h
    · cases h
    · rename_i ha
      split at h
      · rename_i hc
        rw [Bool.and_eq_true, Bool.and_eq_true, Bool.and_eq_true, Bool.and_eq_true] at hc
        obtain ⟨⟨⟨⟨c1, c2⟩, c3⟩, c4⟩, c5⟩ := hc
        obtain ⟨t1, t2⟩ := two_three c1
        have e := names_all G hx ha c3
        rw [← head_line hx t2] at e
        rw [swapped_eq, e]
        have hl := (names_some (cx := cx) hx).2.2
        rw [if_neg (by rw [t1, block_fn G]; decide), if_neg (by intro z; rw [z] at c5; cases c5), if_neg (by rw [hl, apart_dups c2]; simp),
          if_neg (by rw [any_all (fun e he => (loose_no he).1) c4]; decide), if_neg (by rw [any_all (fun e he => (loose_no he).2) c4]; decide)]
      · cases h
  · cases h
end
end Sys
end Mine
end

section
open PySem PySem.W PyProof.Rows PySem.Calls
set_option autoImplicit false
namespace Mine
namespace Sys
variable {Y : Sys}
section
variable {n : Nat} {r : Rec} {cx : Cx} {fr : FI} {st st' st₁ : St} {ρ : List Addr} {s : Shared} {E : Value → Shared → Prop}

theorem floNext_some {x : Option St} {f : Flo} (h : floNext x = some (f, st')) : x = some st' ∧ f = .next := by
  unfold floNext at h
  split at h
  · cases h; exact ⟨rfl, rfl⟩
  · cases h

theorem sExpr_ok (S : Y.Snd n r) {e : Expr} {pos : Pos} {f : Flo} {Q : Flow → Shared → Prop} (hc : isComp e = false) (h : exExpr r fr e st = some (f, st')) (G : Y.Gd cx fr n ρ) (R : Y.Rp cx st ρ s) (q : Y.AnsF cx f st' ρ Q E) :
    Y.wp cx.A (exec (.Expr e pos) cx.env) Q E s := by
  refine wpAny_Expr_any ?_ (kind_not G) (comp_no hc _ _ _)
  unfold exExpr at h
  split at h
  · rename_i v st₁ h1
    cases h
    exact S.ev cx fr e st (.ok v) st' ρ s _ E h1 G R fun ρ' V s' x _ R' => q ρ' s' x R'
  · rename_i c f' st₁ h1
    cases h
    exact S.ev cx fr e st (.ex c f') st' ρ s _ E h1 G R q
  · cases h
theorem sRet_ok (S : Y.Snd n r) {e : Option Expr} {pos : Pos} {f : Flo} {Q : Flow → Shared → Prop} (h : exRet r fr e st = some (f, st')) (G : Y.Gd cx fr n ρ) (R : Y.Rp cx st ρ s) (q : Y.AnsF cx f st' ρ Q E) :
    Y.wp cx.A (exec (.Return e pos) cx.env) Q E s := by
  unfold exRet at h
  split at h
  · refine wpAny_Return_some ?_
    split at h
    · rename_i v st₁ h1
      cases h
      exact S.ev cx fr _ st (.ok v) st' ρ s _ E h1 G R q
    · rename_i c f' st₁ h1
      cases h
      exact S.ev cx fr _ st (.ex c f') st' ρ s _ E h1 G R q
    · cases h
  · cases h
theorem sName_ok (S : Y.Snd n r) {x : Str} {xp pos : Pos} {value : Expr} {f : Flo} {Q : Flow → Shared → Prop} (hc : isComp value = false) (h : exName r fr x value st = some (f, st')) (G : Y.Gd cx fr n ρ) (R : Y.Rp cx st ρ s) (q : Y.AnsF cx f st' ρ Q E) :
    Y.wp cx.A (exec (.Assign [.Name x xp] value pos) cx.env) Q E s := by
  unfold exName at h
  split at h
  · rename_i v st₁ h1
    obtain ⟨h2, rfl⟩ := floNext_some h
    exact wpAny_Assign_Name (S.v h1 G R fun ρ₁ V s₁ x₁ r₁ R₁ G₁ => store_go G₁ R₁ h2 r₁ fun s₂ R₂ => q _ _ x₁ R₂) (comp_no hc _ _ _)
  · cases h
theorem sAttr_ok (S : Y.Snd n r) {o attr : Str} {op tp pos : Pos} {value : Expr} {f : Flo} {Q : Flow → Shared → Prop} (hc : isComp value = false) (h : exAttr r fr o attr value st = some (f, st')) (G : Y.Gd cx fr n ρ) (R : Y.Rp cx st ρ s) (q : Y.AnsF cx f st' ρ Q E) :
    Y.wp cx.A (exec (.Assign [.Attribute (.Name o op) attr tp] value pos) cx.env) Q E s := by
  unfold exAttr at h
  split at h
  · rename_i v st₁ h1
    split at h
    · rename_i ov h2
      obtain ⟨h3, rfl⟩ := floNext_some h
      refine plainObj_wpAny_Assign_Attribute (S.v h1 G R fun ρ₁ V s₁ x₁ r₁ R₁ G₁ => name_go Y.D G₁ R₁ h2 fun W rw' => setAt_go Y.D R₁ h3 rw' r₁ fun s₂ R₂ => q _ _ x₁ R₂) ?_
      exact comp_no hc _ _ _
    · cases h
  · cases h
theorem sAug_ok (S : Y.Snd n r) {o attr : Str} {op tp pos : Pos} {value : Expr} {f : Flo} {Q : Flow → Shared → Prop} (h : exAug r fr o attr value st = some (f, st')) (G : Y.Gd cx fr n ρ) (R : Y.Rp cx st ρ s) (q : Y.AnsF cx f st' ρ Q E) :
    Y.wp cx.A (exec (.AugAssign (.Attribute (.Name o op) attr tp) .Add value pos) cx.env) Q E s := by
  unfold exAug at h
  split at h
  · rename_i ov h1
    split at h
    · rename_i old h2
      split at h
      · rename_i v st₁ h3
        obtain ⟨h4, rfl⟩ := floNext_some h
        refine wpAny_AugAssign_AttributeAny (name_go Y.D G R h1 fun W rw' => getAt_go Y.D R h2 rw' fun V₀ s₀ r₀ R₀ => S.v h3 G R₀ fun ρ₁ V s₁ x₁ r₁ R₁ G₁ => ?_)
        have r₀' := r₀.ext x₁
        cases r₀' with | int _ t =>
        cases r₁ with | int _ u =>
        exact PyProof.Rows.iadd_int (setAt_go Y.D (R₁.tok _) h4 (rw'.ext x₁) (.int _ _) fun s₂ R₂ => q _ _ x₁ R₂)
      · cases h
    · cases h
  · cases h
theorem sIf_ok (S : Y.Snd n r) {t : Expr} {a b : List Stmt} {pos : Pos} {f : Flo} {Q : Flow → Shared → Prop} (h : exIf r fr t a b st = some (f, st')) (G : Y.Gd cx fr n ρ) (R : Y.Rp cx st ρ s) (q : Y.AnsF cx f st' ρ Q E) :
    Y.wp cx.A (exec (.If t a b pos) cx.env) Q E s := by
  unfold exIf at h
  split at h
  · rename_i c st₁ h1
    refine wpAny_If (S.t h1 G R fun ρ₁ s₁ x₁ R₁ G₁ => ?_)
    cases c with
    | true => exact S.ex cx fr _ _ _ _ _ _ _ _ h G₁ R₁ (AnsF.ext q x₁)
    | false => exact S.ex cx fr _ _ _ _ _ _ _ _ h G₁ R₁ (AnsF.ext q x₁)
  · cases h

theorem sTuple_ok (S : Y.Snd n r) {ts : List Expr} {xs : List Str} {k : Nat} {tp pos : Pos} {value : Expr} {f : Flo} {Q : Flow → Shared → Prop} (hx : names? ts = some xs) (hc : isComp value = false) (h : exTuple r fr ts xs value st = some (f, st'))
    (G : Y.Gd cx fr n ρ) (R : Y.Rp cx st ρ s) (q : Y.AnsF cx f st' ρ Q E) : Y.wp cx.A (exec (.Assign [.Tuple ts k tp] value pos) cx.env) Q E s := by
  unfold exTuple at h
  split at h
  · rename_i v st₁ h1
    split at h
    · rename_i its h2
      obtain ⟨kk, rfl, e2⟩ := items_some h2
      split at h
      · rename_i h3
        obtain ⟨h4, rfl⟩ := floNext_some h
        refine Assign_Tuple_swapped (S.v h1 G R fun ρ₁ V s₁ x₁ r₁ R₁ G₁ => ?_) (show swapsWith value (some (.Tuple ts k tp)) pos.line cx.env = pure false from comp_no hc _ _ _) (swap_yes G hx h3)
        cases r₁ with | loc ha =>
        obtain ⟨objs, fo, hid, m, X⟩ := R₁
        obtain ⟨vs, r2, _, t2⟩ := X.tuple e2 ha
        have hl := storeAll_len h4
        rw [List.length_reverse, List.length_reverse] at hl
        refine unpackItemsN_ X.F X.N t2 G.hand (by rw [r2.toArray_size, hl]) fun h' F' N' => ?_
        refine storeAll_go G₁ ⟨_, _, _, _, X.re (tk := s₁.toks) F' N'⟩ h4 ?_ fun s₂ R₂ => q _ _ x₁ R₂
        rw [List.toList_toArray]
        exact r2.reverse
      · rename_i h3
        obtain ⟨h4, rfl⟩ := floNext_some h
        refine Assign_Tuple (S.v h1 G R fun ρ₁ V s₁ x₁ r₁ R₁ G₁ => ?_) (show swapsWith value (some (.Tuple ts k tp)) pos.line cx.env = pure false from comp_no hc _ _ _) (swap_no G hx h3)
        cases r₁ with | loc ha =>
        obtain ⟨objs, fo, hid, m, X⟩ := R₁
        obtain ⟨vs, r2, _, t2⟩ := X.tuple e2 ha
        have hl := storeAll_len h4
        obtain ⟨n1, n2, _⟩ := names_some (cx := cx) hx
        refine unpackN_ X.F X.N t2 G.hand (by rw [r2.toArray_size, n1, hl]) n2 fun h' F' N' => ?_
        refine each_go hx G₁ ⟨_, _, _, _, X.re (tk := s₁.toks) F' N'⟩ h4 ?_ fun s₂ R₂ => q _ _ x₁ R₂
        rw [List.toList_toArray]
        exact r2
      · cases h
    · cases h
  · cases h

/-- a block, statement by statement -/
theorem exs1_nil (fr : FI) (st : St) : exs1 r fr [] st = some (.next, st) := rfl
theorem exs1_cons (fr : FI) (x : Stmt) (xs : List Stmt) (st : St) : exs1 r fr (x :: xs) st = match ex1 r fr x st with
  | some (f, st) => match f with
    | .next => exs1 r fr xs st
    | .ret v => some (.ret v, st)
    | .ex c f => some (.ex c f, st)
  | none => none := rfl
theorem exs_ok (H : Y.SX1 n (ex1 r)) : Y.SX n (exs1 r) := by
  intro cx fr xs
  induction xs with
  | nil =>
    intro st f st' ρ s Q E h G R q
    rw [exs1_nil] at h
    cases h
    exact wpAny_execs_nil (q _ _ (Ext.refl _) R)
  | cons x xs ih =>
    intro st f st' ρ s Q E h G R q
    rw [exs1_cons] at h
    split at h
    · rename_i f₁ st₁ h1
      refine wpAny_execs_cons (H cx fr x st f₁ st₁ ρ s _ E h1 G R ?_)
      cases f₁ with
      | next => exact fun ρ₁ s₁ x₁ R₁ => ih st₁ f st' ρ₁ s₁ Q E h (G.ext x₁) R₁ (AnsF.ext q x₁)
      | ret v => cases h; exact q
      | ex c f' => cases h; exact q
    · cases h
end
end Sys
end Mine
end

section
open PySem PySem.W PyProof.Rows PySem.Calls
set_option autoImplicit false
namespace Mine

/-! ### Hidden objects: an iterator while its loop runs -/
theorem OR.re {ns ns' : Par} {hid : Hid} {ρ : List Addr} {x : O} {o : Obj} (e : ns'.pen = ns.pen) (h : OR ns hid ρ x o) : OR ns' hid ρ x o := by
  cases h with
  | @list _ _ n a => exact .list (n := n) a
  | tuple a => exact .tuple a
  | inst e => exact .inst e
  | dict a b => exact .dict a b
  | cell0 a => exact .cell0 a
  | cell a b => exact .cell a b
  | tab0 => exact .tab0
  | tab1 a b c => exact .tab1 a b c
  | pen a => exact .pen (by rw [e]; exact a)
theorem nodup_key {d : Addr} {o o' : Obj} : ∀ {l : Hid}, (l.map (·.1)).Nodup → (d, o) ∈ l → (d, o') ∈ l → o = o'
  | [], _, h, _ => nomatch h
  | p :: r, nd, h, h' => by
    rw [List.map_cons, List.nodup_cons] at nd
    rcases List.mem_cons.mp h with e | h
    · rcases List.mem_cons.mp h' with e' | h'
      · rw [← e'] at e; injection e
      · exact absurd (List.mem_map.mpr ⟨_, h', by rw [← e]⟩) nd.1
    · rcases List.mem_cons.mp h' with e' | h'
      · exact absurd (List.mem_map.mpr ⟨_, h, by rw [← e']⟩) nd.1
      · exact nodup_key nd.2 h h'
/-- no code object: the second field is no text -/
noncomputable def NotTab (o : Obj) : Prop := ∀ vs q t, o.data = .fields vs → vs[1]? ≠ some (.str q t)
theorem OR.other {ns : Par} {hid hid' : Hid} {ρ : List Addr} {x : O} {o o₀ : Obj} {d : Addr} (h : OR ns hid ρ x o) (nd : (hid.map (·.1)).Nodup) (hd : (d, o₀) ∈ hid) (hn : NotTab o₀) (hh : ∀ p ∈ hid, p.1 ≠ d → p ∈ hid') : OR ns hid' ρ x o := by
  cases h with
  | @list _ _ n a => exact .list (n := n) a
  | tuple a => exact .tuple a
  | inst e => exact .inst e
  | dict a b => exact .dict a b
  | cell0 a => exact .cell0 a
  | cell a b => exact .cell a b
  | tab0 => exact .tab0
  | @tab1 l c q c' oc vs t a b e =>
    refine .tab1 (hh _ a fun z => ?_) b e
    have : oc = o₀ := by subst z; exact nodup_key nd a hd
    rw [this] at b
    exact hn _ _ _ b e
  | pen a => exact .pen a

section
variable {ns ns' : Par} {S₀ : Shared} {B : Heap} {cx : Cx} {st : St} {ρ : List Addr} {s : Shared} {objs : List Obj} {fo hid : Hid} {m : Str → Option Value} {d : Addr} {o : Obj}

theorem RepX.par (X : RepX ns S₀ B cx st ρ s objs fo hid m) (e : ns'.pen = ns.pen) (h : ∀ p ∈ ns'.hid, p ∈ hid) : RepX ns' S₀ B cx st ρ s objs fo hid m :=
  ⟨X.F, X.N, X.nd, X.len, X.led.mono fun _ _ r => r.re e, X.fas, X.stk, X.loc, X.sh, h⟩
theorem RepX.hidNodup (X : RepX ns S₀ B cx st ρ s objs fo hid m) : (hid.map (·.1)).Nodup := by
  have h := X.nd
  rw [show newsOf fo hid ρ objs = fo ++ (hid ++ ρ.zip objs) from rfl, List.map_append, List.map_append] at h
  exact (List.nodup_append.mp (List.nodup_append.mp h).2.1).1
theorem RepX.hidMem (_X : RepX ns S₀ B cx st ρ s objs fo hid m) {p : Addr × Obj} (h : p ∈ hid) : p ∈ newsOf fo hid ρ objs := List.mem_append_right _ (List.mem_append_left _ h)
/-- one more hidden object -/
theorem RepX.hide (X : RepX ns S₀ B cx st ρ s objs fo hid m) {h' : Heap} {tk : Nat} {a : Addr} {o : Obj} (F : Fr B cx.L h' m) (N : News B cx.L h' ((a, o) :: newsOf fo hid ρ objs)) (ha : ∀ p ∈ newsOf fo hid ρ objs, p.1 < a) :
    RepX ⟨(a, o) :: ns.hid, ns.pen⟩ S₀ B cx st ρ { s with heap := h', toks := tk } objs fo ((a, o) :: hid) m := by
  refine ⟨F, fun p hp => N p ?_, ?_, X.len, X.led.mono fun _ _ r => (?_ : OR _ _ _ _ _), X.fas, X.stk, X.loc, X.sh, fun p hp => ?_⟩
  · rcases List.mem_append.mp hp with hp | hp
    · exact List.mem_cons_of_mem _ (List.mem_append_left _ hp)
    · rcases List.mem_cons.mp hp with rfl | hp
      · exact List.mem_cons_self
      · exact List.mem_cons_of_mem _ (List.mem_append_right _ hp)
  · show ((fo ++ ((a, o) :: (hid ++ ρ.zip objs))).map (·.1)).Nodup
    rw [List.map_append, List.map_cons, List.perm_middle.nodup_iff, ← List.map_append, List.nodup_cons]
    refine ⟨fun hm => ?_, X.nd⟩
    obtain ⟨p, hp, e⟩ := List.mem_map.mp hm
    exact absurd (ha p hp) (by rw [e]; exact Nat.lt_irrefl _)
  · have := r.grow (hid' := (a, o) :: hid) [] (fun p hp => List.mem_cons_of_mem _ hp)
    rw [List.append_nil] at this
    exact OR.re (ns := ns) rfl this
  · rcases List.mem_cons.mp hp with rfl | hp
    · exact List.mem_cons_self
    · exact List.mem_cons_of_mem _ (X.old p hp)
theorem updL_mem {d : Addr} {o' : Obj} : ∀ {l : Hid} {p : Addr × Obj}, p ∈ l → p.1 ≠ d → p ∈ updL d o' l
  | [], p, h, _ => nomatch h
  | q :: r, p, h, hn => by
    unfold updL
    by_cases e : q.1 = d
    · rw [if_pos e]
      rcases List.mem_cons.mp h with rfl | h
      · exact absurd e hn
      · exact List.mem_cons_of_mem _ h
    · rw [if_neg e]
      rcases List.mem_cons.mp h with rfl | h
      · exact List.mem_cons_self
      · exact List.mem_cons_of_mem _ (updL_mem h hn)
theorem updL_self {d : Addr} {o o' : Obj} : ∀ {l : Hid}, (d, o) ∈ l → (d, o') ∈ updL d o' l
  | [], h => nomatch h
  | q :: r, h => by
    unfold updL
    by_cases e : q.1 = d
    · rw [if_pos e]; exact List.mem_cons_self
    · rw [if_neg e]
      rcases List.mem_cons.mp h with rfl | h
      · exact absurd rfl e
      · exact List.mem_cons_of_mem _ (updL_self h)
theorem updL_in {d : Addr} {o o' : Obj} : ∀ {l r : Hid}, (d, o) ∈ l → updL d o' (l ++ r) = updL d o' l ++ r
  | [], r, h => nomatch h
  | q :: l, r, h => by
    show (if q.1 = d then (d, o') :: (l ++ r) else q :: updL d o' (l ++ r)) = (if q.1 = d then (d, o') :: l else q :: updL d o' l) ++ r
    by_cases e : q.1 = d
    · rw [if_pos e, if_pos e]; rfl
    · rw [if_neg e, if_neg e]
      rcases List.mem_cons.mp h with rfl | h
      · exact absurd rfl e
      · rw [updL_in h]; rfl
/-- a hidden object turned -/
theorem RepX.hidUpd (X : RepX ⟨(d, o) :: ns.hid, ns.pen⟩ S₀ B cx st ρ s objs fo hid m) {h' : Heap} {tk : Nat} {o' : Obj} (hs : Heap.SameBut d s.heap h') (ho : h'.get? d = some o') (hn : NotTab o) (off : ∀ p ∈ ns.hid, p.1 ≠ d) :
    RepX ⟨(d, o') :: ns.hid, ns.pen⟩ S₀ B cx st ρ { s with heap := h', toks := tk } objs fo (updL d o' hid) m := by
  have hm : (d, o) ∈ hid := X.old _ List.mem_cons_self
  have hm' := X.hidMem hm
  have hfo : ∀ p ∈ fo, p.1 ≠ d := by
    have h := X.nd
    rw [show newsOf fo hid ρ objs = fo ++ (hid ++ ρ.zip objs) from rfl, List.map_append, List.map_append] at h
    exact fun p hp e => (List.nodup_append.mp h).2.2 p.1 (List.mem_map_of_mem hp) d (List.mem_append_left _ (List.mem_map.mpr ⟨_, hm, rfl⟩)) e
  have e : newsOf fo (updL d o' hid) ρ objs = updL d o' (newsOf fo hid ρ objs) := by
    show fo ++ (updL d o' hid ++ ρ.zip objs) = updL d o' (fo ++ (hid ++ ρ.zip objs))
    rw [updL_off hfo, updL_in hm]
  have z := X.N _ hm'
  refine ⟨X.F.change hs z.2.1 z.2.2, ?_, ?_, X.len, X.led.mono fun _ _ r => (?_ : OR _ _ _ _ _), X.fas, X.stk, X.loc, X.sh, fun p hp => ?_⟩
  · rw [e]; exact news_updL X.N X.nd hm' hs ho
  · rw [e, updL_keys]; exact X.nd
  · exact OR.re (ns := ⟨(d, o) :: ns.hid, ns.pen⟩) rfl (r.other X.hidNodup hm hn fun p hp hne => updL_mem hp hne)
  · rcases List.mem_cons.mp hp with rfl | hp
    · exact updL_self hm
    · exact updL_mem (X.old p (List.mem_cons_of_mem _ hp)) (off p hp)
/-- a hidden object let go: nothing is said of it any more -/
theorem RepX.unhide (X : RepX ⟨(d, o) :: ns.hid, ns.pen⟩ S₀ B cx st ρ s objs fo hid m) {h' : Heap} {tk : Nat} (hs : Heap.ExtBut d s.heap h') (hn : NotTab o) (off : ∀ p ∈ ns.hid, p.1 ≠ d) :
    Rep ns S₀ B cx st ρ { s with heap := h', toks := tk } := by
  have hm : (d, o) ∈ hid := X.old _ List.mem_cons_self
  have hm' := X.hidMem hm
  have z := X.N _ hm'
  have sub : (newsOf fo (hid.filter fun p => p.1 != d) ρ objs).Sublist (newsOf fo hid ρ objs) := (List.Sublist.refl fo).append (List.filter_sublist.append (List.Sublist.refl _))
  have hne : ∀ p ∈ newsOf fo (hid.filter fun p => p.1 != d) ρ objs, p.1 ≠ d := by
    have h := X.nd
    rw [show newsOf fo hid ρ objs = fo ++ (hid ++ ρ.zip objs) from rfl, List.map_append, List.map_append] at h
    have h1 := List.nodup_append.mp h
    have h2 := List.nodup_append.mp h1.2.1
    have hd : d ∈ hid.map (·.1) := List.mem_map.mpr ⟨_, hm, rfl⟩
    intro p hp e
    rcases List.mem_append.mp hp with hp | hp
    · exact h1.2.2 p.1 (List.mem_map_of_mem hp) d (List.mem_append_left _ hd) e
    · rcases List.mem_append.mp hp with hp | hp
      · have := (List.mem_filter.mp hp).2
        exact absurd e (bne_iff_ne.mp this)
      · exact h2.2.2 d hd p.1 (List.mem_map_of_mem hp) e.symm
  refine ⟨objs, fo, hid.filter fun p => p.1 != d, m, ⟨⟨X.F.ns.at' fun o e => hs _ o (Ne.symm z.2.1) e, fun b o e => hs b o (fun q => by rw [q, z.2.2] at e; cases e) (X.F.keep b o e), X.F.above⟩, fun p hp => ?_, X.nd.sublist (sub.map _), X.len, X.led.mono fun _ _ r => (?_ : OR _ _ _ _ _), X.fas, X.stk, X.loc, X.sh, fun p hp => ?_⟩⟩
  · have y := X.N p (sub.subset hp)
    exact ⟨hs _ _ (hne p hp) y.1, y.2⟩
  · exact OR.re (ns := ⟨(d, o) :: ns.hid, ns.pen⟩) rfl (r.other X.hidNodup hm hn fun p hp hne => List.mem_filter.mpr ⟨hp, bne_iff_ne.mpr hne⟩)
  · exact List.mem_filter.mpr ⟨X.old p (List.mem_cons_of_mem _ hp), bne_iff_ne.mpr (off p hp)⟩
end

namespace Sys
/-- the same, with more hidden -/
noncomputable def at' (Y : Sys) (H : Hid) : Sys := { Y with ns := ⟨H, Y.ns.pen⟩ }
noncomputable def SndA (Y : Sys) (n : Nat) (r : Rec) : Prop := ∀ H, (∀ p ∈ Y.ns.hid, p ∈ H) → (Y.at' H).Snd n r
variable {Y : Sys}
section
variable {n : Nat} {r : Rec} {cx : Cx} {fr : FI} {st st' st₁ : St} {ρ : List Addr} {s : Shared} {E : Value → Shared → Prop}
theorem SndA.self (S : Y.SndA n r) : Y.Snd n r := S Y.ns.hid fun _ h => h

theorem whileGo_ok (S : Y.Snd n r) {t : Expr} {body : List Stmt} {Q : Flow → Shared → Prop} (G : Y.Gd cx fr n ρ) : ∀ {k : Nat} {f : Flo} {st : St} {ρ' : List Addr} {s : Shared}, whileGo r fr t body k st = some (f, st') → Ext ρ ρ' → Y.Rp cx st ρ' s → Y.AnsF cx f st' ρ Q (fun _ _ => False) →
    WhlRest Y.prog Y.w cx.A (fun _ _ => False) cx.env t body [] Q k s
  | 0, f, st, ρ', s, h, x, R, q => by cases h
  | k + 1, f, st, ρ', s, h, x, R, q => by
    unfold whileGo at h
    refine whl_turn PassesOwn.never ?_
    split at h
    · rename_i st₁ h1
      split at h
      · rename_i st₂ h2
        refine S.t h1 (G.ext x) R fun ρ₁ s₁ x₁ R₁ G₁ => WhlIf.yes rfl ?_
        exact S.ex cx fr _ _ _ _ _ _ _ _ h2 G₁ R₁ fun ρ₂ s₂ x₂ R₂ => whileGo_ok S G h ((x.trans x₁).trans x₂) R₂ q
      · cases h
    · rename_i st₁ h1
      cases h
      exact S.t h1 (G.ext x) R fun ρ₁ s₁ x₁ R₁ G₁ => WhlIf.no rfl (wpAny_execs_nil (q _ _ (x.trans x₁) R₁))
    · cases h
theorem whileGo_next {t : Expr} {body : List Stmt} : ∀ {k : Nat} {f : Flo} {st : St}, whileGo r fr t body k st = some (f, st') → f = .next
  | 0, f, st, h => by cases h
  | k + 1, f, st, h => by
    unfold whileGo at h
    split at h
    · split at h
      · exact whileGo_next h
      · cases h
    · cases h; rfl
    · cases h
theorem sWhile_ok (S : Y.Snd n r) {t : Expr} {body : List Stmt} {pos : Pos} {f : Flo} {Q : Flow → Shared → Prop} (h : whileGo r fr t body 20 st = some (f, st')) (G : Y.Gd cx fr n ρ) (R : Y.Rp cx st ρ s) (q : Y.AnsF cx f st' ρ Q E) :
    Y.wp cx.A (exec (.While t body [] pos) cx.env) Q E s := by
  have hf : f = .next := whileGo_next h
  subst hf
  exact wpAny_mono (whl_start 20 (whileGo_ok (Q := Q) S G h (Ext.refl _) R q)) (fun _ _ h => h) fun _ _ h => h.elim
end
end Sys
end Mine
end

section
open PySem PySem.W PyProof.Rows PySem.Calls
set_option autoImplicit false
namespace Mine
namespace Sys
variable {Y : Sys}
section
variable {n : Nat} {r : Rec} {cx : Cx} {fr : FI} {st st' st₁ : St} {ρ : List Addr} {s : Shared} {E : Value → Shared → Prop}

theorem set_not {e : Expr} (h : isSetE e = false) (env : Env) (x : Value) : foldedSetIterable e env x = pure x := by
  cases e <;> first | rfl | cases h
theorem lst_some {led : List O} {k : Nat} {vs : List V} (h : lstItems (nth led k) = some vs) : led[k]? = some (.list vs) := by
  rw [nth_eq] at h
  unfold lstItems at h
  split at h
  · rename_i e; cases h; exact e
  · cases h
noncomputable def itL (la : Addr) (i : Nat) (o : Obj) : Prop := o.cls = .type "list_iterator" ∧ o.data = .fields #[.ref la, .int i 0]
theorem itL.no {la : Addr} {i : Nat} {o : Obj} (h : itL la i o) : NotTab o := fun vs q t e => by
  rw [h.2] at e
  cases e
  intro z
  cases z

theorem forGo_succ (fr : FI) (k : Nat) (xs : List Str) (body : List Stmt) (m i : Nat) (st : St) : forGo r fr k xs body (m + 1) i st = match lstItems (nth st.led k) with
    | some vs => match nth vs i with
      | some v => match items st.led v with
        | some its => match storeAll fr xs its st with
          | some st => match r.exs fr body st with
            | some (.next, st) => forGo r fr k xs body m (i + 1) st
            | some (.ret v, st) => some (.ret v, st)
            | _ => none
          | none => none
        | none => none
      | none => some (.next, st)
    | none => none := by
  rfl

theorem forT_loop (S : Y.SndA n r) {kk : Nat} {ts : List Expr} {k' : Nat} {tp : Pos} {xs : List Str} {body : List Stmt} {f : Flo} {la I : Addr} {m : Nat} {o : Obj} {R' : Result → Shared → Prop} (hx : names? ts = some xs) (G : Y.Gd cx fr n ρ)
    (off : ∀ p ∈ Y.ns.hid, p.1 ≠ I) (hla : ρ[kk]? = some la) (ho : itL la 0 o) (h : forGo r fr kk xs body m 0 st = some (f, st')) (R : (Y.at' ((I, o) :: Y.ns.hid)).Rp cx st ρ s)
    (q : Y.AnsF cx f st' ρ (fun f s => R' (.ok f) s) E) :
    codeAny (model Y.prog Y.w) cx.A (.forLoop (.Tuple ts k' tp) (.ref I) body [] cx.env) R' s := by
  refine codeAny_forLoop_any (fun k s' => ∃ i st ρ' o, forGo r fr kk xs body k i st = some (f, st') ∧ Ext ρ ρ' ∧ itL la i o ∧ (Y.at' ((I, o) :: Y.ns.hid)).Rp cx st ρ' s') ?_ m ⟨0, st, ρ, o, h, Ext.refl _, ho, R⟩
  rintro k s' ⟨i, st, ρ', o, h, x, ho, objs, fo, hid, mm, X⟩
  cases k with
  | zero => cases h
  | succ k =>
  rw [forGo_succ] at h
  split at h
  · rename_i vs h1
    have hm : (I, o) ∈ hid := X.old _ List.mem_cons_self
    have hI := (X.N _ (X.hidMem hm)).1
    have hit : s'.heap.IsListIter I la i := ⟨o, hI, ho.1, ho.2⟩
    obtain ⟨Vs, c, r1, _, _, l1⟩ := X.list (lst_some h1) (x.at hla)
    rw [nth_eq] at h
    split at h
    · rename_i v h2
      obtain ⟨V, e1, rv⟩ := a2_nth r1 h2
      refine wpAny_pyNext_list_item hit l1 e1 fun h' hit' hs => ?_
      obtain ⟨o', ho', oc, od⟩ := id hit'
      have X' := X.hidUpd (tk := s'.toks) hs ho' ho.no off
      split at h
      · rename_i its h3
        obtain ⟨kt, rfl, e3⟩ := items_some h3
        cases rv with
        | @loc _ T hT =>
        refine wpAny_letOwnedTupleGo_listiter hit' ?_
        obtain ⟨Ws, r2, _, t2⟩ := X'.tuple e3 hT
        split at h
        · rename_i st₂ h4
          have hl := storeAll_len h4
          obtain ⟨n1, n2, _⟩ := names_some (cx := cx) hx
          refine unpackN_ X'.F X'.N t2 G.hand (by rw [r2.toArray_size, n1, hl]) n2 fun h'' F' N' => ?_
          refine each_go (Y := Y.at' ((I, o') :: Y.ns.hid)) hx (G.ext x) ⟨_, _, _, _, X'.re (tk := s'.toks) F' N'⟩ h4 (by rw [List.toList_toArray]; exact r2) fun s₂ R₂ => ?_
          split at h
          · rename_i st₃ h5
            refine (S ((I, o') :: Y.ns.hid) fun _ hp => List.mem_cons_of_mem _ hp).ex cx fr body st₂ .next st₃ ρ' s₂ _ _ h5 (G.ext x) R₂ fun ρ₃ s₃ x₃ R₃ => ?_
            exact ⟨k, Nat.lt_succ_self k, i + 1, st₃, ρ₃, o', h, x.trans x₃, ⟨oc, od⟩, R₃⟩
          · rename_i v st₃ h5
            cases h
            refine (S ((I, o') :: Y.ns.hid) fun _ hp => List.mem_cons_of_mem _ hp).ex cx fr body st₂ (.ret v) st' ρ' s₂ _ _ h5 (G.ext x) R₂ fun ρ₃ V s₃ x₃ rv R₃ => ?_
            obtain ⟨_, _, _, _, X₃⟩ := R₃
            exact q _ _ _ (x.trans x₃) rv ⟨_, _, _, _, X₃.par rfl fun p hp => X₃.old p (List.mem_cons_of_mem _ hp)⟩
          · cases h
        · cases h
      · cases h
    · rename_i h2
      cases h
      have e1 : Vs.toArray[i]? = none := by rw [List.getElem?_toArray]; exact r1.left_none h2
      exact wpAny_pyNext_list_end G.hand hit l1 e1 fun h' hs => wpAny_execs_nil (q _ _ x (X.unhide (tk := s'.toks) hs ho.no off))
  · cases h

theorem sForT_ok (S : Y.SndA n r) {ts : List Expr} {k' : Nat} {tp pos : Pos} {xs : List Str} {iter : Expr} {body : List Stmt} {f : Flo} {Q : Flow → Shared → Prop} (hx : names? ts = some xs) (hs : isSetE iter = false) (h : exForT r fr xs iter body st = some (f, st')) (G : Y.Gd cx fr n ρ) (R : Y.Rp cx st ρ s)
    (q : Y.AnsF cx f st' ρ Q E) : Y.wp cx.A (exec (.For (.Tuple ts k' tp) iter body [] pos) cx.env) Q E s := by
  unfold exForT at h
  split at h
  · rename_i kk st₁ h1
    refine wpAny_For (S.self.v h1 G R fun ρ₁ V s₁ x₁ r₁ R₁ G₁ => ?_) (set_not hs _)
    cases r₁ with
    | @loc _ la hla =>
    have h' := h
    rw [forGo_succ] at h'
    split at h'
    · rename_i vs h2
      obtain ⟨objs, fo, hid, m, X⟩ := R₁
      obtain ⟨Vs, c, r1, _, _, l1⟩ := X.list (lst_some h2) hla
      refine wpAny_pyIter_list l1 ?_
      have lt : ∀ p ∈ Y.ns.hid, p.1 ≠ s₁.heap.objs.size := fun p hp => Nat.ne_of_lt (X.lt p (X.hidMem (X.old p hp)))
      exact forT_loop S hx G₁ lt hla ⟨rfl, rfl⟩ h ⟨_, _, _, _, X.hide (tk := s₁.toks) (X.F.push _) (X.N.push X.F _) X.lt⟩ (AnsF.ext q x₁)
    · cases h'
  · cases h
end
end Sys
end Mine
end

section
open PySem PySem.W PyProof.Rows PySem.Calls
set_option autoImplicit false
namespace Mine
namespace Sys
variable {Y : Sys}
section
variable {n : Nat} {r : Rec} {cx : Cx} {fr : FI} {st st' st₁ : St} {ρ : List Addr} {s : Shared} {E : Value → Shared → Prop}

theorem itR_no (x l : Int) : NotTab (itR x l) := fun vs q t e => by
  cases e
  intro z
  cases z
theorem forRange_succ (fr : FI) (x : Str) (body : List Stmt) (m i : Nat) (st : St) : forRange r fr x body (m + 1) i st = match store fr st x (.int i) with
    | some st => match r.exs fr body st with
      | some (.next, st) => forRange r fr x body m (i + 1) st
      | some (.ret v, st) => some (.ret v, st)
      | _ => none
    | none => none := rfl

theorem forR_loop (S : Y.SndA n r) {x : Str} {xp : Pos} {body : List Stmt} {f : Flo} {I : Addr} {m : Nat} {R' : Result → Shared → Prop} (G : Y.Gd cx fr n ρ)
    (off : ∀ p ∈ Y.ns.hid, p.1 ≠ I) (h : forRange r fr x body m 0 st = some (f, st')) (R : (Y.at' ((I, itR ((0 : Nat) : Int) (m : Int)) :: Y.ns.hid)).Rp cx st ρ s)
    (q : Y.AnsF cx f st' ρ (fun f s => R' (.ok f) s) E) :
    codeAny (model Y.prog Y.w) cx.A (.forLoop (.Name x xp) (.ref I) body [] cx.env) R' s := by
  refine codeAny_forLoop_any (fun k s' => ∃ i st ρ', forRange r fr x body k i st = some (f, st') ∧ Ext ρ ρ' ∧ (Y.at' ((I, itR (i : Int) (k : Int)) :: Y.ns.hid)).Rp cx st ρ' s') ?_ m ⟨0, st, ρ, h, Ext.refl _, R⟩
  rintro k s' ⟨i, st, ρ', h, x, objs, fo, hid, mm, X⟩
  have hm : (I, itR (i : Int) (k : Int)) ∈ hid := X.old _ List.mem_cons_self
  have hit : IsRangeIter s'.heap I (i : Int) (k : Int) 1 := (X.N _ (X.hidMem hm)).1
  cases k with
  | zero =>
    cases h
    exact wpAny_pyNext_range_end G.hand hit (Int.le_refl _) fun h' hs => wpAny_execs_nil (q _ _ x (X.unhide (tk := s'.toks) hs (itR_no _ _) off))
  | succ k =>
  rw [forRange_succ] at h
  split at h
  · rename_i st₂ h2
    refine wpAny_pyNext_range_item hit (by omega) fun h' hit' hs => ?_
    have e1 : ((i : Int) + 1) = ((i + 1 : Nat) : Int) := by omega
    have e2 : (((k + 1 : Nat) : Int) - 1) = (k : Int) := by omega
    rw [e1, e2] at hit'
    have X' := X.hidUpd (tk := s'.toks + 1) hs hit' (itR_no _ _) off
    refine wpAny_pure ?_
    refine wpAny_bind (wpAny_standAt ?_)
    refine bind_go (Y := Y.at' ((I, itR ((i + 1 : Nat) : Int) (k : Int)) :: Y.ns.hid)) (G.ext x) ⟨_, _, _, _, X'⟩ h2 (.int _ _) fun s₂ R₂ => ?_
    split at h
    · rename_i st₃ h5
      refine (S ((I, itR ((i + 1 : Nat) : Int) (k : Int)) :: Y.ns.hid) fun _ hp => List.mem_cons_of_mem _ hp).ex cx fr body st₂ .next st₃ ρ' s₂ _ _ h5 (G.ext x) R₂ fun ρ₃ s₃ x₃ R₃ => ?_
      exact ⟨k, Nat.lt_succ_self k, i + 1, st₃, ρ₃, h, x.trans x₃, R₃⟩
    · rename_i v st₃ h5
      cases h
      refine (S ((I, itR ((i + 1 : Nat) : Int) (k : Int)) :: Y.ns.hid) fun _ hp => List.mem_cons_of_mem _ hp).ex cx fr body st₂ (.ret v) st' ρ' s₂ _ _ h5 (G.ext x) R₂ fun ρ₃ V s₃ x₃ rv R₃ => ?_
      obtain ⟨_, _, _, _, X₃⟩ := R₃
      exact q _ _ _ (x.trans x₃) rv ⟨_, _, _, _, X₃.par rfl fun p hp => X₃.old p (List.mem_cons_of_mem _ hp)⟩
    · cases h
  · cases h

/-- `range(n)` called -/
theorem range_go {rg : Str} {k : Int} {kp : Nat} {rp cp pos : Pos} {A : Around} {Q : Value → Shared → Prop} (G : Y.Gd cx fr n ρ) (R : Y.Rp cx st ρ s) (h : evName fr st rg = some (.bi .range))
    (q : ∀ a t u v s', IsRange s'.heap a 0 k 1 t u v → Y.Rp cx st ρ s' → Q (.ref a) s') : Y.wp A (eval (.Call (.Name rg rp) [.Constant (.int k) kp cp] [] pos) cx.env) Q E s := by
  refine Call_ (name_go Y.D G R h fun V rv => ?_)
  cases rv
  show Y.wp A (callWith pos (.type "range") [] _ []) Q E s
  refine callWith_type1 (spliced_more (wpAny_Constant_int (spliced_none (call_range_1 ?_))))
  obtain ⟨objs, fo, hid, m, X⟩ := R
  exact q _ _ _ _ _ (Heap.get?_push_size _ rfl) ⟨_, _, _, _, X.re (X.F.push _) (News.pushKeep X.N _)⟩

theorem small_k {k : Int} (h0 : 0 ≤ k) (h1 : k ≤ 100) : Builtin.Range.small 0 k 1 = true ∧ Builtin.Range.rangeSize 0 k 1 = k := by
  refine ⟨small_one (by omega) (by omega) (by omega) (by omega), ?_⟩
  rw [rangeSize_one]
  split <;> omega

theorem sForR_ok (S : Y.SndA n r) {x rg : Str} {xp rp cp ip pos : Pos} {kp : Nat} {k : Int} {body : List Stmt} {f : Flo} {Q : Flow → Shared → Prop} (h : exForR r fr x rg k body st = some (f, st')) (G : Y.Gd cx fr n ρ) (R : Y.Rp cx st ρ s)
    (q : Y.AnsF cx f st' ρ Q E) : Y.wp cx.A (exec (.For (.Name x xp) (.Call (.Name rg rp) [.Constant (.int k) kp cp] [] ip) body [] pos) cx.env) Q E s := by
  unfold exForR at h
  split at h
  · rename_i h1
    split at h
    · rename_i h2
      obtain ⟨b1, b2⟩ := Bool.and_eq_true_iff.mp h2
      have b1 := of_decide_eq_true b1
      have b2 := of_decide_eq_true b2
      obtain ⟨z1, z2⟩ := small_k b1 b2
      refine wpAny_For (range_go G R h1 fun a t u v s₁ ha R₁ => wpAny_pyIter_range ha z1 ?_)
      obtain ⟨objs, fo, hid, m, X⟩ := R₁
      have lt : ∀ p ∈ Y.ns.hid, p.1 ≠ s₁.heap.objs.size := fun p hp => Nat.ne_of_lt (X.lt p (X.hidMem (X.old p hp)))
      rw [z2]
      have e : k = ((k.toNat : Nat) : Int) := (Int.toNat_of_nonneg b1).symm
      refine forR_loop S G lt h ?_ q
      rw [← e]
      exact ⟨_, _, _, _, X.hide (tk := s₁.toks) (X.F.push _) (X.N.push X.F _) X.lt⟩
    · cases h
  · cases h

/-! calls: the operands in front -/
theorem evs_star : ∀ {es : List Expr} {vs : List V} {st st' : St}, evs r fr es st = some (vs, st') → ∀ (pos : Pos) (env : Env), (backTo pos (starEach es env)).any (·.1) = false
  | [], _, _, _, _, _, _ => rfl
  | e :: es, vs, st, st', h, pos, env => by
    rw [evs_cons] at h
    split at h
    · cases h
    · rename_i hs
      split at h
      · split at h
        · rename_i vs' st₂ h2
          have ih := evs_star h2 pos env
          rw [starEach_cons hs]
          show (false || (backTo pos (starEach es env)).any (·.1)) = false
          rw [ih]; rfl
        · cases h
      · cases h
noncomputable def Callable (Y : Sys) (f : Value) : Prop := (∃ id, f = .builtin id) ∨ (∃ T, f = .type T) ∨ keepIn Y.K f = true
theorem args_go (S : Y.Snd n r) {f : Value} {first : List Value} {es : List Expr} {vs : List V} {pos : Pos} {Q : Value → Shared → Prop} (hf : Y.Callable f) (h : evs r fr es st = some (vs, st')) (G : Y.Gd cx fr n ρ) (R : Y.Rp cx st ρ s)
    (q : ∀ ρ' Vs s', Ext ρ ρ' → A2 (VR ρ') vs Vs → Y.Rp cx st' ρ' s' → Y.Gd cx fr n ρ' → Y.wp cx.A (call f (first ++ Vs)) Q E s') :
    Y.wp cx.A (callWith pos f first (backTo pos (starEach es cx.env)) []) Q E s := by
  cases es with
  | nil =>
    rw [evs_nil] at h
    cases h
    have q0 := q _ _ _ (Ext.refl _) .nil R G
    rcases hf with ⟨id, rfl⟩ | ⟨T, rfl⟩ | hk
    · rw [List.append_nil] at q0
      exact callWith_method0 q0
    · exact PyProof.Rows.callWith_type rfl (evalArgs_nil3 q0)
    · obtain ⟨objs, fo, hid, m, X⟩ := R
      exact callWith_K0 (Y.D.X.keeps X.F.keep) hk q0
  | cons e es =>
    have star := evs_star h pos cx.env
    have hs : isStar e = false := by
      rw [evs_cons] at h
      split at h
      · cases h
      · assumption
    have he := starEach_cons (es := es) (env := cx.env) hs
    have hp : (backTo pos (starEach es cx.env)).any (·.1) = false := by
      rw [he] at star
      exact (Bool.or_eq_false_iff.mp star).2
    have go : ∀ P : Shared → Prop, (∀ ρ' s', Y.Rp cx st' ρ' s' → P s') → Y.wp cx.A (spliced (backTo pos (starEach (e :: es) cx.env))) (fun Vs s' => P s' ∧ Y.wp cx.A (call f (first ++ Vs)) Q E s') E s :=
      fun P hP => evs_go S h G R fun ρ' Vs s' x rv R' G' => ⟨hP ρ' s' R', q ρ' Vs s' x rv R' G'⟩
    rcases hf with ⟨id, rfl⟩ | ⟨T, rfl⟩ | hk
    · exact callWith_method1 (wpAny_mono (go (fun _ => True) fun _ _ _ => trivial) (fun _ _ h => h.2) fun _ _ h => h) he hp
    · rw [he]
      refine PyProof.Rows.callWith_type (by show (false || (backTo pos (starEach es cx.env)).any (·.1)) = false; rw [hp]; rfl) (evalArgs_plain ?_)
      have := go (fun _ => True) fun _ _ _ => trivial
      rw [he] at this
      exact wpAny_mono this (fun _ _ h => h.2) fun _ _ h => h
    · exact callWith_K Y.D.X hk (go (fun s' => Y.K.In s'.heap) fun ρ' s' R' => by obtain ⟨_, _, _, _, X⟩ := R'; exact Y.D.X.keeps X.F.keep) he hp
end
end Sys
end Mine
end

section
open PySem PySem.W PyProof.Rows PySem.Calls
set_option autoImplicit false
namespace Mine

section
variable {ns : Par} {S₀ : Shared} {B : Heap} {cx : Cx} {st : St} {ρ : List Addr} {s : Shared} {objs : List Obj} {fo hid : Hid} {m : Str → Option Value}

/-- a callee's frame above this one -/
noncomputable def Cx.enter (cx : Cx) (l : Loc) (env : Env) (L : Addr) : Cx := ⟨cx.A.deeper env, env, L, cx.L :: cx.fas, l :: cx.stk, cx.env :: cx.outer⟩
theorem none_at {B : Heap} {L : Addr} (h : B.objs.size ≤ L) : B.get? L = none := by
  cases q : B.get? L with
  | none => rfl
  | some o => exact absurd (Nat.lt_of_lt_of_le (Heap.lt_size q) h) (Nat.lt_irrefl _)
theorem RepX.enter (X : RepX ns S₀ B cx st ρ s objs fo hid m) {h' : Heap} {tk : Nat} {env : Env} {m' : Str → Option Value} {l : Loc} (hn : h'.Ns s.heap.objs.size m') (hk : ∀ b o, s.heap.get? b = some o → h'.get? b = some o) (hl : LocR ρ l m') :
    ∃ oL, RepX ns S₀ B (cx.enter st.loc env s.heap.objs.size) ⟨st.led, l⟩ ρ { s with heap := h', toks := tk } objs ((cx.L, oL) :: fo) hid m' := by
  obtain ⟨oL, es, ep, hL, hLd, hLk, hLf⟩ := X.F.ns
  refine ⟨oL, ⟨⟨hn, fun b o e => hk b o (X.F.keep b o e), Nat.le_trans X.F.above (Nat.le_of_lt (Heap.lt_size hL))⟩, fun p hp => ?_, ?_, X.len, X.led, ?_, .cons ⟨es, ep, hLd, hLk, fun x v e => ?_⟩ X.stk, hl, X.sh, X.old⟩⟩
  · rcases List.mem_cons.mp hp with rfl | hp
    · exact ⟨hk _ _ hL, Nat.ne_of_lt (Heap.lt_size hL), none_at X.F.above⟩
    · exact ⟨hk _ _ (X.N p hp).1, Nat.ne_of_lt (Heap.lt_size (X.N p hp).1), (X.N p hp).2.2⟩
  · show ((cx.L, oL) :: newsOf fo hid ρ objs |>.map (·.1)).Nodup
    rw [List.map_cons, List.nodup_cons]
    refine ⟨fun hm => ?_, X.nd⟩
    obtain ⟨p, hp, e⟩ := List.mem_map.mp hm
    exact (X.N p hp).2.1 e
  · show _ :: _ = _
    rw [X.fas]; rfl
  · obtain ⟨V, e1, e2⟩ := X.loc x v e
    exact ⟨V, (hLf x).trans e1, e2⟩
/-- back in the caller's frame -/
theorem RepX.ret {env : Env} {L : Addr} {l : Loc} {st' : St} (X : RepX ns S₀ B (cx.enter l env L) st' ρ s objs fo hid m) (above : B.objs.size ≤ cx.L) : Rep ns S₀ B cx ⟨st'.led, l⟩ ρ s := by
  have hf := X.fas
  have hs := X.stk
  have nd := X.nd
  have N := X.N
  have F := X.F
  cases fo with
  | nil => cases hf
  | cons p fo =>
  obtain ⟨L₀, oL⟩ := p
  have e : L₀ = cx.L := (List.cons.inj hf).1
  subst e
  cases hs with
  | cons hp hs =>
  obtain ⟨es, ep, hd, hk, hv⟩ := hp
  have z := N (cx.L, oL) List.mem_cons_self
  have nd' : cx.L ∉ (newsOf fo hid ρ objs).map (·.1) ∧ ((newsOf fo hid ρ objs).map (·.1)).Nodup := List.nodup_cons.mp nd
  refine ⟨objs, fo, hid, fun x => nsFind es x, ⟨⟨⟨oL, es, ep, z.1, hd, hk, fun _ => rfl⟩, F.keep, above⟩, fun q hq => ?_, nd'.2, X.len, X.led, (List.cons.inj hf).2, hs, hv, X.sh, X.old⟩⟩
  have y := N q (List.mem_cons_of_mem _ hq)
  exact ⟨y.1, fun e => nd'.1 (List.mem_map.mpr ⟨q, hq, e⟩), y.2.2⟩

/-- several new objects, in order -/
noncomputable def numL : List Addr → Nat → Nat → List Addr
  | l, _, 0 => l
  | l, n, k + 1 => numL (l ++ [n]) (n + 1) k
end

/-! binding -/
theorem zipP_zip : ∀ {xs : List Str} {vs : List V} {bs : Loc}, zipP xs vs = some bs → bs.map (·.1) = xs ∧ bs.map (·.2) = vs
  | [], [], bs, h => by cases h; exact ⟨rfl, rfl⟩
  | x :: xs, v :: vs, bs, h => by
    unfold zipP at h
    split at h
    · rename_i l e
      cases h
      obtain ⟨a, b⟩ := zipP_zip e
      exact ⟨by rw [List.map_cons, a], by rw [List.map_cons, b]⟩
    · cases h
  | [], _ :: _, _, h => by cases h
  | _ :: _, [], _, h => by cases h
noncomputable def BR (ρ : List Addr) (p : Str × V) (q : Str × Value) : Prop := p.1 = q.1 ∧ VR ρ p.2 q.2
theorem zipP_rel {ρ : List Addr} : ∀ {xs : List Str} {vs : List V} {Vs : List Value} {bs : Loc}, zipP xs vs = some bs → A2 (VR ρ) vs Vs → A2 (BR ρ) bs (xs.zip Vs)
  | [], [], _, bs, h, r => by cases h; exact .nil
  | x :: xs, v :: vs, _, bs, h, r => by
    cases r with
    | cons rv r =>
    unfold zipP at h
    split at h
    · rename_i l e
      cases h
      exact .cons ⟨rfl, rv⟩ (zipP_rel e r)
    · cases h
  | [], _ :: _, _, _, h, _ => by cases h
  | _ :: _, [], _, _, h, _ => by cases h
theorem br_lk {ρ : List Addr} {bs : Loc} {binds : List (Str × Value)} (h : A2 (BR ρ) bs binds) (x : Str) : (∀ v, lk bs x = some v → ∃ V, binds.lookup x = some V ∧ VR ρ v V) ∧ (lk bs x = none → binds.lookup x = none) := by
  induction h with
  | nil => exact ⟨fun v e => (by rw [lk_nil] at e; cases e), fun _ => rfl⟩
  | @cons a b l m r _ ih =>
    obtain ⟨a1, a2⟩ := a
    obtain ⟨b1, b2⟩ := b
    obtain ⟨e1, e2⟩ := r
    dsimp only at e1 e2
    subst e1
    rw [lk_cons, List.lookup_cons]
    dsimp only
    cases q : eqS x a1 with
    | true => rw [eqS_true q]; simp only [beq_self_eq_true]; exact ⟨fun v e => (by cases e; exact ⟨b2, rfl, e2⟩), fun e => nomatch e⟩
    | false => rw [show (x == a1) = false from beq_eq_false_iff_ne.mpr (eqS_false q)]; exact ih
theorem lookup_none {α : Type} {x : Str} : ∀ {l : List (Str × α)}, x ∉ l.map (·.1) → l.lookup x = none
  | [], _ => rfl
  | (y, a) :: l, h => by
    rw [List.map_cons, List.mem_cons, not_or] at h
    rw [List.lookup_cons, show (x == y) = false from beq_eq_false_iff_ne.mpr h.1]
    exact lookup_none h.2
theorem bindL_at (k : Str → Option NameKind) (y : Str) : ∀ (binds : List (Str × Value)) (m : Str → Option Value), (binds.map (·.1)).Nodup → bindL k binds m y = match binds.lookup y with
    | some v => if k y = some .local then some v else m y
    | none => m y
  | [], m, _ => rfl
  | (n, v) :: r, m, nd => by
    rw [List.map_cons, List.nodup_cons] at nd
    show bindL k r _ y = _
    rw [bindL_at k y r _ nd.2, List.lookup_cons]
    by_cases e : y = n
    · subst e
      rw [lookup_none nd.1]
      simp only [beq_self_eq_true]
      by_cases hk : k y = some .local
      · simp [hk]
      · simp [hk]
    · rw [show (y == n) = false from beq_eq_false_iff_ne.mpr e]
      cases r.lookup y <;> by_cases hk : k y = some .local <;> by_cases hn : k n = some .local <;> simp [hk, hn, e]
theorem bindC_at (k : Str → Option NameKind) (y : Str) : ∀ (binds : List (Str × Value)) (m : Str → Option Value), (binds.map (·.1)).Nodup → bindC k binds m y = match binds.lookup y with
    | some v => if k y = some .local then m y else some v
    | none => m y
  | [], m, _ => rfl
  | (n, v) :: r, m, nd => by
    rw [List.map_cons, List.nodup_cons] at nd
    show bindC k r _ y = _
    rw [bindC_at k y r _ nd.2, List.lookup_cons]
    by_cases e : y = n
    · subst e
      rw [lookup_none nd.1]
      simp only [beq_self_eq_true]
      by_cases hk : k y = some .local
      · simp [hk]
      · simp [hk]
    · rw [show (y == n) = false from beq_eq_false_iff_ne.mpr e]
      cases r.lookup y <;> by_cases hk : k y = some .local <;> by_cases hn : k n = some .local <;> simp [hk, hn, e]
theorem bindLoc_lk {names : List (Str × NameKind)} {x : Str} {v : V} : ∀ {bs : Loc}, lk (bindLoc names bs) x = some v → lk names x = some .local ∧ ((bs.map (·.1)).Nodup → lk bs x = some v)
  | [], h => by rw [show bindLoc names [] = [] from rfl, lk_nil] at h; cases h
  | p :: bs, h => by
    unfold bindLoc at h
    split at h
    · rename_i hp
      rw [lk_cons] at h
      cases q : eqS x p.1 with
      | true =>
        rw [q] at h
        rw [eqS_true q]
        refine ⟨Sys.isLoc_some hp, fun _ => ?_⟩
        rw [lk_cons, eqS_self]
        exact h
      | false =>
        rw [q] at h
        obtain ⟨a, b⟩ := bindLoc_lk (bs := bs) h
        refine ⟨a, fun nd => ?_⟩
        rw [List.map_cons, List.nodup_cons] at nd
        rw [lk_cons, q]
        exact b nd.2
    · obtain ⟨a, b⟩ := bindLoc_lk (bs := bs) h
      refine ⟨a, fun nd => ?_⟩
      rw [List.map_cons, List.nodup_cons] at nd
      have hb := b nd.2
      rw [lk_cons]
      cases q : eqS x p.1 with
      | true =>
        exfalso
        rw [lk_lookup, lookup_none (by rw [eqS_true q]; exact nd.1)] at hb
        cases hb
      | false => exact hb
theorem cellsFrom_eq : ∀ (names : List (Str × NameKind)) (n : Nat) (acc : List (Str × Addr)), cellsFrom n names acc = (number (cellNames names) n).reverse ++ acc
  | [], n, acc => rfl
  | (x, k) :: r, n, acc => by
    show (if k == .cell then cellsFrom (n + 1) r ((x, n) :: acc) else cellsFrom n r acc) = _
    unfold cellNames
    cases k <;> first
      | (rw [if_neg (by decide), cellsFrom_eq r]; rfl)
      | (rw [if_pos (by decide), cellsFrom_eq r]; show _ = (number (x :: cellNames r) n).reverse ++ acc; rw [show number (x :: cellNames r) n = (x, n) :: number (cellNames r) (n + 1) from rfl, List.reverse_cons, List.append_assoc]; rfl)
end Mine
end

section
open PySem PySem.W PyProof.Rows PySem.Calls
set_option autoImplicit false
namespace Mine

section
variable {ns : Par} {S₀ : Shared} {B : Heap} {cx : Cx} {st : St} {ρ : List Addr} {s : Shared} {objs : List Obj} {fo hid : Hid} {m : Str → Option Value}
variable {M : Model} {A : Around} {E : Value → Shared → Prop}

/-- the frames' objects have other slots; all else that is told stays -/
theorem fo_slots {h h' : Heap} : ∀ {fo : Hid} {stk : List Loc}, A2 (FR ρ) stk fo → (∀ p ∈ fo, h.get? p.1 = some p.2) → (∀ p ∈ fo, ∀ o, h.get? p.1 = some o → ∃ sl, h'.get? p.1 = some { o with slots := sl }) →
    ∃ fo', fo'.map (·.1) = fo.map (·.1) ∧ A2 (FR ρ) stk fo' ∧ ∀ p ∈ fo', h'.get? p.1 = some p.2
  | [], _, r, _, _ => by cases r; exact ⟨[], rfl, .nil, fun _ h => nomatch h⟩
  | p :: fo, _, r, hg, hs => by
    cases r with
    | cons rp r =>
    obtain ⟨fo', e1, e2, e3⟩ := fo_slots r (fun q hq => hg q (List.mem_cons_of_mem _ hq)) fun q hq => hs q (List.mem_cons_of_mem _ hq)
    obtain ⟨sl, hsl⟩ := hs p List.mem_cons_self _ (hg p List.mem_cons_self)
    obtain ⟨es, ep, hd, hk, hv⟩ := rp
    refine ⟨(p.1, { p.2 with slots := sl }) :: fo', by rw [List.map_cons, List.map_cons, e1], .cons ⟨es, ep, hd, hk, hv⟩ e2, fun q hq => ?_⟩
    rcases List.mem_cons.mp hq with rfl | hq
    · exact hsl
    · exact e3 q hq
theorem RepX.slots (X : RepX ns S₀ B cx st ρ s objs fo hid m) {h' : Heap} {tk : Nat} (hk : ∀ b o, b ≠ cx.L → b ∉ cx.fas → (B.get? b = some o ∨ (b, o) ∈ hid ++ ρ.zip objs) → s.heap.get? b = some o → h'.get? b = some o)
    (hs : ∀ b, (b = cx.L ∨ b ∈ cx.fas) → ∀ o, s.heap.get? b = some o → ∃ sl, h'.get? b = some { o with slots := sl }) :
    ∃ fo', RepX ns S₀ B cx st ρ { s with heap := h', toks := tk } objs fo' hid m ∧ fo'.map (·.1) = fo.map (·.1) := by
  obtain ⟨fo', e1, e2, e3⟩ := fo_slots (h := s.heap) (h' := h') X.stk (fun p hp => (X.N p (List.mem_append_left _ hp)).1) fun p hp => hs p.1 (.inr (by rw [← X.fas]; exact List.mem_map_of_mem hp))
  obtain ⟨oL, es, ep, hL, hLd, hLk, hLf⟩ := X.F.ns
  obtain ⟨sl, hsl⟩ := hs cx.L (.inl rfl) _ hL
  have ek : (newsOf fo' hid ρ objs).map (·.1) = (newsOf fo hid ρ objs).map (·.1) := by
    show (fo' ++ (hid ++ ρ.zip objs)).map (·.1) = (fo ++ (hid ++ ρ.zip objs)).map (·.1)
    simp only [List.map_append, e1]
  have hfas : ∀ p ∈ hid ++ ρ.zip objs, p.1 ∉ cx.fas := fun p hp hm => by
    have h := X.nd
    rw [show newsOf fo hid ρ objs = fo ++ (hid ++ ρ.zip objs) from rfl, List.map_append] at h
    rw [← X.fas] at hm
    exact (List.nodup_append.mp h).2.2 p.1 hm p.1 (List.mem_map_of_mem hp) rfl
  refine ⟨fo', ⟨⟨⟨_, es, ep, hsl, hLd, hLk, hLf⟩, fun b o e => ?_, X.F.above⟩, fun p hp => ?_, by rw [ek]; exact X.nd, X.len, X.led, e1.trans X.fas, e2, X.loc, X.sh, X.old⟩, e1⟩
  · refine hk b o (fun q => ?_) (fun q => ?_) (.inl e) (X.F.keep b o e)
    · rw [q, none_at X.F.above] at e; cases e
    · rw [← X.fas] at q
      obtain ⟨p, hp, rfl⟩ := List.mem_map.mp q
      rw [(X.N p (List.mem_append_left _ hp)).2.2] at e; cases e
  · rcases List.mem_append.mp hp with hp | hp
    · have : p.1 ∈ fo.map (·.1) := by rw [← e1]; exact List.mem_map_of_mem hp
      obtain ⟨p₀, hp₀, e⟩ := List.mem_map.mp this
      have y := (X.N p₀ (List.mem_append_left _ hp₀)).2
      rw [e] at y
      exact ⟨e3 p hp, y⟩
    · have y := X.N p (List.mem_append_right _ hp)
      exact ⟨hk _ _ y.2.1 (hfas p hp) (.inr hp) y.1, y.2⟩

/-- a frame's environments stand -/
structure Frs (cx : Cx) (A : Around) : Prop where
  frames : A.frames = some (cx.env :: cx.outer)
  frame : cx.env.frame = some cx.L
  kind : cx.env.scope.kind = .function
  outer : cx.outer.map (·.frame) = cx.fas.map some
  kinds : ∀ e ∈ cx.outer, e.scope.kind = .function
theorem fun_outer {h B : Heap} : ∀ {l : List Env} {fas : List Addr}, l.map (·.frame) = fas.map some → (∀ e ∈ l, e.scope.kind = .function) → (∀ a ∈ fas, B.get? a = none ∧ ∃ o es ep, h.get? a = some o ∧ o.data = .dict es ep) → h.FunFrames B l
  | [], _, _, _, _ => trivial
  | env :: l, [], h, _, _ => by cases h
  | env :: l, a :: fas, h, hk, ha => by
    rw [List.map_cons, List.map_cons] at h
    obtain ⟨e1, e2⟩ := List.cons.inj h
    obtain ⟨hn, o, es, ep, ho, hd⟩ := ha a List.mem_cons_self
    exact ⟨by rw [hk env List.mem_cons_self]; decide, ⟨a, o, e1, hn, ho, fun vs q => by rw [hd] at q; cases q⟩, fun_outer e2 (fun e he => hk e (List.mem_cons_of_mem _ he)) fun b hb => ha b (List.mem_cons_of_mem _ hb)⟩
theorem fr_mem {p : Addr × Obj} : ∀ {stk : List Loc} {fo : Hid}, A2 (FR ρ) stk fo → p ∈ fo → ∃ l, FR ρ l p
  | _, [], r, h => nomatch h
  | _, q :: fo, r, h => by
    cases r with
    | cons rq r =>
    rcases List.mem_cons.mp h with rfl | h
    · exact ⟨_, rq⟩
    · exact fr_mem r h
theorem RepX.funFrames (X : RepX ns S₀ B cx st ρ s objs fo hid m) (W : Frs cx A) : s.heap.FunFrames B (cx.env :: cx.outer) := by
  obtain ⟨oL, es, ep, hL, hLd, hLk, hLf⟩ := X.F.ns
  refine ⟨by rw [W.kind]; decide, ⟨cx.L, oL, W.frame, none_at X.F.above, hL, fun vs q => by rw [hLd] at q; cases q⟩, fun_outer W.outer W.kinds fun a ha => ?_⟩
  rw [← X.fas] at ha
  obtain ⟨p, hp, rfl⟩ := List.mem_map.mp ha
  have y := X.N p (List.mem_append_left _ hp)
  refine ⟨y.2.2, p.2, ?_⟩
  obtain ⟨_, es, ep, hd, _⟩ := fr_mem X.stk hp
  exact ⟨es, ep, y.1, hd⟩
theorem frames_list (W : Frs cx A) : (cx.env :: cx.outer).filterMap (·.frame) = cx.L :: cx.fas := by
  rw [List.filterMap_cons, W.frame]
  dsimp only
  congr 1
  have h := W.outer
  generalize cx.outer = l at h
  generalize cx.fas = fas at h
  clear W
  induction l generalizing fas with
  | nil => cases fas with
    | nil => rfl
    | cons _ _ => cases h
  | cons e l ih => cases fas with
    | nil => cases h
    | cons a fas =>
      rw [List.map_cons, List.map_cons] at h
      obtain ⟨e1, e2⟩ := List.cons.inj h
      rw [List.filterMap_cons, e1, ih fas e2]
end
end Mine
end

section
open PySem PySem.W PyProof.Rows PySem.Calls
set_option autoImplicit false
namespace Mine

theorem dict_map (o : Obj) (f : Array Value → Array Value) : (Obj.mapFields f o).dict = o.dict := by
  unfold Obj.mapFields
  split <;> rfl

section
variable {ns : Par} {S₀ : Shared} {B : Heap} {cx : Cx} {st : St} {ρ : List Addr} {s : Shared} {objs : List Obj} {fo fo' hid : Hid} {m : Str → Option Value}
variable {M : Model} {A : Around} {E : Value → Shared → Prop}

theorem off_keys {a : Addr} (e1 : fo'.map (·.1) = fo.map (·.1)) (h : ∀ p ∈ newsOf fo hid ρ objs, p.1 ≠ a) : ∀ p ∈ newsOf fo' hid ρ objs, p.1 ≠ a := fun p hp => by
  rcases List.mem_append.mp hp with hp | hp
  · have : p.1 ∈ fo.map (·.1) := by rw [← e1]; exact List.mem_map_of_mem hp
    obtain ⟨p₀, hp₀, e⟩ := List.mem_map.mp this
    rw [← e]
    exact h p₀ (List.mem_append_left _ hp₀)
  · exact h p (List.mem_append_right _ hp)
theorem RepX.offFas (X : RepX ns S₀ B cx st ρ s objs fo hid m) {a : Addr} (h : ∀ p ∈ newsOf fo hid ρ objs, p.1 ≠ a) : a ∉ cx.fas := fun hm => by
  rw [← X.fas] at hm
  obtain ⟨p, hp, e⟩ := List.mem_map.mp hm
  exact h p (List.mem_append_left _ hp) e

theorem entry_go {e : Addr} {c f : Int} {dx : Addr} {oe : Obj} {vs : Array Value} {es : List DictEntry} {n : Nat} {head : Value} {hadNext : Bool} {Q : Unit → Shared → Prop} (W : Frs cx A) (X : RepX ns S₀ B cx st ρ s objs fo hid m)
    (x : ExcX B (newsOf fo hid ρ objs) cx.L e c f s.heap dx oe vs es n)
    (q : ∀ h' fo', RepX ns S₀ B cx st ρ { s with heap := h' } objs fo' hid m → fo'.map (·.1) = fo.map (·.1) → Exc B (newsOf fo' hid ρ objs) cx.L e c f h' (some (rawInt cx.L)) → Q () { s with heap := h' }) :
    wpAny M A (do let a ← frameOf cx.env; let pl ← entryPlaceOf cx.L hadNext; let b ← EntryCells.newEntry head a .none (rawInt cx.L) .none pl; setField (.ref e) 1 b) Q E s := by
  have hfr := frames_list W
  have eF := X.offFas x.offE
  have dF := X.offFas x.offD
  have de : dx ≠ e := fun z => by
    have h1 := x.there
    rw [← z, x.dat] at h1
    have h2 := Option.some.inj h1
    have h3 := x.data
    rw [← h2] at h3
    cases h3
  refine wpAny_bind (wpAny_frameOf_fun W.frames (X.funFrames W) W.frame fun h₁ hs₁ => ?_)
  rw [hfr] at hs₁
  obtain ⟨z1, z2, z3⟩ := hs₁
  have not2 : ∀ {b : Addr}, b ≠ cx.L → b ∉ cx.fas → h₁.get? b = s.heap.get? b := fun h1 h2 => z2 _ (by rw [List.mem_cons, not_or]; exact ⟨h1, h2⟩)
  refine wpAny_bind (wpAny_entryPlaceOf fun pl hpl => ?_)
  unfold EntryCells.newEntry newFields
  refine wpAny_bind (wpAny_newObj_type ?_ (hpl.sizeOk5 _ _ _ _ _))
  generalize hto : ({ cls := .type "traceback", dict := none, data := .fields ([head, .ref cx.L, .none, rawInt cx.L, .none] ++ (if pl.isEmpty then List.replicate 6 Value.none else pl)).toArray } : Obj) = oT
  have hdT : oT.data = .fields ([head, .ref cx.L, .none, rawInt cx.L, .none] ++ (if pl.isEmpty then List.replicate 6 Value.none else pl)).toArray := by rw [← hto]
  have hfree : oT.isFreed = false := by rw [← hto]; rfl
  have he₁ : h₁.get? e = some oe := (not2 x.eL eF).trans x.there
  have he₂ := Heap.get?_push_of_some oT he₁
  refine wpAny_setField he₂ x.data x.size ?_
  have hTe : h₁.objs.size ≠ e := Nat.ne_of_gt (Heap.lt_size he₁)
  have hd₃ := Obj.data_mapFields x.data (·.setIfInBounds 1 (Value.ref h₁.objs.size))
  have he₃ := Heap.get?_update_self (Obj.mapFields (·.setIfInBounds 1 (Value.ref h₁.objs.size))) he₂ (Obj.isFreed_of_fields hd₃)
  have hT₃ := (Heap.get?_update_other (h₁.push oT) (Obj.mapFields (·.setIfInBounds 1 (Value.ref h₁.objs.size))) (Ne.symm hTe)).trans (Heap.get?_push_size h₁ hfree)
  have keep : ∀ b o, b ≠ e → h₁.get? b = some o → ((h₁.push oT).update e (Obj.mapFields (·.setIfInBounds 1 (Value.ref h₁.objs.size)))).get? b = some o := fun b o hbe hb => by
    rw [Heap.get?_update_other _ _ (Ne.symm hbe)]
    exact Heap.get?_push_of_some _ hb
  obtain ⟨fo', X', e1⟩ := X.slots (tk := s.toks) (h' := (h₁.push oT).update e (Obj.mapFields (·.setIfInBounds 1 (Value.ref h₁.objs.size)))) (fun b o h1 h2 h3 h4 => by
      refine keep b o (fun z => ?_) ((not2 h1 h2).trans h4)
      subst z
      rcases h3 with h3 | h3
      · rw [x.newE] at h3; cases h3
      · exact x.offE _ (List.mem_append_right _ h3) rfl) (fun b hb o ho => by
      obtain ⟨sl, hsl⟩ := z3 b o ho
      refine ⟨sl, keep b _ (fun z => ?_) hsl⟩
      subst z
      rcases hb with hb | hb
      · exact x.eL hb
      · exact eF hb)
  have eT : h₁.objs.size = s.heap.objs.size := z1
  have hdx := keep dx _ de ((not2 x.dL dF).trans x.dat)
  have newT : B.get? h₁.objs.size = none := by
    rw [eT]
    cases hq : B.get? s.heap.objs.size with
    | none => rfl
    | some o => exact absurd (Heap.lt_size (X.F.keep _ _ hq)) (Nat.lt_irrefl _)
  refine q _ fo' X' e1 ⟨dx, _, _, es, n, ⟨he₃, (Obj.cls_mapFields _ _).trans x.cls, (dict_map _ _).trans x.dict, hd₃, by rw [Array.size_setIfInBounds]; exact x.size, hdx, x.code, x.frame, x.newE, off_keys e1 x.offE, x.newD, off_keys e1 x.offD, x.eL, x.dL⟩, h₁.objs.size, oT, _, ⟨?_, hT₃, hdT, ?_, hTe, ?_, newT, ?_, ?_⟩⟩
  · have := x.size
    simp [this]
  · simp
  · exact fun z => absurd (Heap.lt_size ((not2 x.dL dF).trans x.dat)) (by rw [z]; exact Nat.lt_irrefl _)
  · refine off_keys e1 fun p hp z => ?_
    have := X.lt p hp
    rw [z, eT] at this
    exact Nat.lt_irrefl _ this
  · intro z
    have := X.F.ns.lt
    rw [← z, eT] at this
    exact Nat.lt_irrefl _ this

/-- the flight's mark set anew -/
theorem tb_set {e : Addr} {c f : Int} {dx : Addr} {oe : Obj} {vs : Array Value} {es : List DictEntry} {n : Nat} {fl fl' : Value} {T : Addr} {oT : Obj} {ts : Array Value} (X : RepX ns S₀ B cx st ρ s objs fo hid m)
    (x : ExcX B (newsOf fo hid ρ objs) cx.L e c f s.heap dx oe vs es n) (y : TbX B (newsOf fo hid ρ objs) cx.L e s.heap dx vs fl T oT ts) :
    RepX ns S₀ B cx st ρ { s with heap := s.heap.update T (Obj.mapFields (·.setIfInBounds 3 fl')) } objs fo hid m ∧
    ExcX B (newsOf fo hid ρ objs) cx.L e c f (s.heap.update T (Obj.mapFields (·.setIfInBounds 3 fl'))) dx oe vs es n ∧
    ∃ oT' ts', TbX B (newsOf fo hid ρ objs) cx.L e (s.heap.update T (Obj.mapFields (·.setIfInBounds 3 fl'))) dx vs fl' T oT' ts' := by
  have other : ∀ b, b ≠ T → (s.heap.update T (Obj.mapFields (·.setIfInBounds 3 fl'))).get? b = s.heap.get? b := fun b hb => Heap.get?_update_other _ _ (Ne.symm hb)
  have hd := Obj.data_mapFields y.data (·.setIfInBounds 3 fl')
  refine ⟨X.re (tk := s.toks) (X.F.change ⟨Heap.size_update .., other⟩ y.TL y.newT) fun p hp => ⟨(other _ (y.off p hp)).trans (X.N p hp).1, (X.N p hp).2⟩,
    ⟨(other _ (Ne.symm y.ne)).trans x.there, x.cls, x.dict, x.data, x.size, (other _ (Ne.symm y.nd)).trans x.dat, x.code, x.frame, x.newE, x.offE, x.newD, x.offD, x.eL, x.dL⟩,
    _, _, ⟨y.tb, Heap.get?_update_self _ y.there (Obj.isFreed_of_fields hd), hd, ?_, y.ne, y.nd, y.newT, y.off, y.TL⟩⟩
  have := (Array.getElem?_eq_some_iff.mp y.fl).1
  simp [this]

theorem note_go {e : Addr} {c f : Int} {fl : Option Value} {Q : Unit → Shared → Prop} (W : Frs cx A) (X : RepX ns S₀ B cx st ρ s objs fo hid m) (x : Exc B (newsOf fo hid ρ objs) cx.L e c f s.heap fl) (hfl : fl = none ∨ fl = some .none)
    (q : ∀ h' fo', RepX ns S₀ B cx st ρ { s with heap := h' } objs fo' hid m → fo'.map (·.1) = fo.map (·.1) → Exc B (newsOf fo' hid ρ objs) cx.L e c f h' (some (rawInt cx.L)) → Q () { s with heap := h' }) :
    wpAny M A (noteFrame (.ref e) cx.env) Q E s := by
  obtain ⟨dx, oe, vs, es, n, x, y⟩ := x
  unfold noteFrame
  simp only [W.frame]
  rcases hfl with rfl | rfl
  · refine wpAny_bind (wpAny_field x.there x.data y ?_)
    rw [if_neg (by decide)]
    exact entry_go W X x q
  · obtain ⟨T, oT, ts, y⟩ := y
    refine wpAny_bind (wpAny_field x.there x.data y.tb ?_)
    rw [if_pos (show (Value.ref T != Value.none) = true from by simp)]
    refine wpAny_bind (wpAny_field y.there y.data y.fl ?_)
    rw [if_neg (show ¬ ((Value.none == rawInt cx.L) = true) from by simp [rawInt])]
    refine wpAny_bind (wpAny_setField y.there y.data (Array.getElem?_eq_some_iff.mp y.fl).1 ?_)
    obtain ⟨X', x', _⟩ := tb_set (fl' := .none) X x y
    exact entry_go W X' x' q
theorem again_go {e : Addr} {c f : Int} {Q : Unit → Shared → Prop} (W : Frs cx A) (x : Exc B (newsOf fo hid ρ objs) cx.L e c f s.heap (some (rawInt cx.L))) (q : Q () s) : wpAny M A (noteFrame (.ref e) cx.env) Q E s := by
  obtain ⟨dx, oe, vs, es, n, x, T, oT, ts, y⟩ := x
  unfold noteFrame
  simp only [W.frame]
  refine wpAny_bind (wpAny_field x.there x.data y.tb ?_)
  rw [if_pos (show (Value.ref T != Value.none) = true from by simp)]
  refine wpAny_bind (wpAny_field y.there y.data y.fl ?_)
  rw [if_pos (show (rawInt cx.L == rawInt cx.L) = true from by simp)]
  exact wpAny_pure q
theorem flight_go {e : Addr} {c f : Int} {fl : Value} {Q : Unit → Shared → Prop} (X : RepX ns S₀ B cx st ρ s objs fo hid m) (x : Exc B (newsOf fo hid ρ objs) cx.L e c f s.heap (some fl))
    (q : ∀ h', RepX ns S₀ B cx st ρ { s with heap := h' } objs fo hid m → Exc B (newsOf fo hid ρ objs) cx.L e c f h' (some .none) → Q () { s with heap := h' }) :
    wpAny M A (setFlight (.ref e) none) Q E s := by
  obtain ⟨dx, oe, vs, es, n, x, T, oT, ts, y⟩ := x
  unfold setFlight
  refine wpAny_bind (wpAny_field x.there x.data y.tb ?_)
  rw [if_pos (show (Value.ref T != Value.none) = true from by simp)]
  obtain ⟨X', x', oT', ts', y'⟩ := tb_set (fl' := .none) X x y
  exact wpAny_setField y.there y.data (Array.getElem?_eq_some_iff.mp y.fl).1 (q _ X' ⟨dx, oe, vs, es, n, x', T, oT', ts', y'⟩)

/-- out of a frame on an exception's way -/
theorem leave_go {env : Env} {L : Addr} {l : Loc} {e : Addr} {c f : Int} {fl : Option Value} {Q : Unit → Shared → Prop} (W : Frs (cx.enter l env L) A) (X : RepX ns S₀ B (cx.enter l env L) st ρ s objs fo hid m) (above : B.objs.size ≤ cx.L)
    (x : Exc B (newsOf fo hid ρ objs) L e c f s.heap fl) (hfl : fl = none ∨ fl = some .none)
    (q : ∀ h' objs fo' hid m, RepX ns S₀ B cx ⟨st.led, l⟩ ρ { s with heap := h' } objs fo' hid m → Exc B (newsOf fo' hid ρ objs) cx.L e c f h' (some .none) → Q () { s with heap := h' }) :
    wpAny M A (leaving env (.ref e)) Q E s := by
  unfold leaving
  refine wpAny_bind (note_go W X x hfl fun h₁ fo₁ X₁ e₁ x₁ => flight_go X₁ x₁ fun h₂ X₂ x₂ => ?_)
  have hf := X₂.fas
  have hs := X₂.stk
  have nd := X₂.nd
  have N := X₂.N
  have F := X₂.F
  cases fo₁ with
  | nil => cases hf
  | cons p fo₁ =>
  obtain ⟨L₀, oL⟩ := p
  have e0 : L₀ = cx.L := (List.cons.inj hf).1
  subst e0
  cases hs with
  | cons hp hs =>
  obtain ⟨es, ep, hd, hk, hv⟩ := hp
  have z := N (cx.L, oL) List.mem_cons_self
  have nd' : cx.L ∉ (newsOf fo₁ hid ρ objs).map (·.1) ∧ ((newsOf fo₁ hid ρ objs).map (·.1)).Nodup := List.nodup_cons.mp nd
  refine q h₂ objs fo₁ hid (fun x => nsFind es x) ⟨⟨⟨oL, es, ep, z.1, hd, hk, fun _ => rfl⟩, F.keep, above⟩, fun q hq => ?_, nd'.2, X₂.len, X₂.led, (List.cons.inj hf).2, hs, hv, X₂.sh, X₂.old⟩ ?_
  · have y := N q (List.mem_cons_of_mem _ hq)
    exact ⟨y.1, fun e => nd'.1 (List.mem_map.mpr ⟨q, hq, e⟩), y.2.2⟩
  · obtain ⟨dx, oe, vs, es', n, x, T, oT, ts, y⟩ := x₂
    have sub : ∀ p ∈ newsOf fo₁ hid ρ objs, p ∈ newsOf ((cx.L, oL) :: fo₁) hid ρ objs := fun p hp => List.mem_cons_of_mem _ hp
    exact ⟨dx, oe, vs, es', n, ⟨x.there, x.cls, x.dict, x.data, x.size, x.dat, x.code, x.frame, x.newE, fun p hp => x.offE p (sub p hp), x.newD, fun p hp => x.offD p (sub p hp), Ne.symm (x.offE _ List.mem_cons_self), Ne.symm (x.offD _ List.mem_cons_self)⟩,
      T, oT, ts, ⟨y.tb, y.there, y.data, y.fl, y.ne, y.nd, y.newT, fun p hp => y.off p (sub p hp), Ne.symm (y.off _ List.mem_cons_self)⟩⟩
end
end Mine
end

section
open PySem PySem.W PyProof.Rows PySem.Calls
set_option autoImplicit false
namespace Mine

section
variable {ns : Par} {S₀ : Shared} {B : Heap} {cx : Cx} {st : St} {ρ : List Addr} {s : Shared} {objs : List Obj} {fo fo' hid : Hid} {m : Str → Option Value}

/-- the cells of a new frame -/
theorem RepX.cellsIn {bs : Loc} {cm : Str → Option Value} : ∀ {xs : List Str} {a : Nat} {led : List O} {l : Loc} {ρ : List Addr} {objs : List Obj}, RepX ns S₀ B cx ⟨led, l⟩ ρ s objs fo hid m →
    (∀ p ∈ number xs a, ∃ o, s.heap.get? p.2 = some o ∧ o.data = .cell (cm p.1)) → (∀ p ∈ newsOf fo hid ρ objs, p.1 < a) → cx.L < a → B.objs.size ≤ a →
    (∀ x ∈ xs, (∀ v, lk bs x = some v → ∃ V, cm x = some V ∧ VR ρ v V) ∧ (lk bs x = none → cm x = none)) →
    ∃ objs', RepX ns S₀ B cx ⟨led ++ newCells bs xs, l⟩ (ρ ++ (number xs a).map (·.2)) s objs' fo hid m
  | [], a, led, l, ρ, objs, X, _, _, _, _, _ => ⟨objs, by
      show RepX ns S₀ B cx ⟨led ++ [], l⟩ (ρ ++ []) s objs fo hid m
      rw [List.append_nil, List.append_nil]; exact X⟩
  | x :: xs, a, led, l, ρ, objs, X, hc, hlt, hL, hB, hv => by
    obtain ⟨o, ho, hd⟩ := hc (x, a) List.mem_cons_self
    have hx := hv x List.mem_cons_self
    have ok : OR ns hid (ρ ++ [a]) (.cell (lk bs x)) o := by
      cases e : lk bs x with
      | none => exact .cell0 (by rw [hd, hx.2 e])
      | some v =>
        obtain ⟨V, e1, e2⟩ := hx.1 v e
        exact .cell (e2.grow _) (by rw [hd, e1])
    have N' : News B cx.L s.heap ((a, o) :: newsOf fo hid ρ objs) := fun p hp => by
      rcases List.mem_cons.mp hp with rfl | hp
      · exact ⟨ho, Nat.ne_of_gt hL, none_at hB⟩
      · exact X.N p hp
    have X' : RepX ns S₀ B cx ⟨led ++ [.cell (lk bs x)], l⟩ (ρ ++ [a]) s (objs ++ [o]) fo hid m := X.push (h' := s.heap) (tk := s.toks) X.F N' hlt ok
    have e : newsOf fo hid (ρ ++ [a]) (objs ++ [o]) = newsOf fo hid ρ objs ++ [(a, o)] := by
      show fo ++ (hid ++ (ρ ++ [a]).zip (objs ++ [o])) = fo ++ (hid ++ ρ.zip objs) ++ [(a, o)]
      rw [zip_snoc X.len, List.append_assoc, List.append_assoc]
    obtain ⟨objs', X''⟩ := RepX.cellsIn (xs := xs) (a := a + 1) X' (fun p hp => hc p (List.mem_cons_of_mem _ hp)) (fun p hp => by
        rw [e] at hp
        rcases List.mem_append.mp hp with hp | hp
        · exact Nat.lt_succ_of_lt (hlt p hp)
        · rw [List.mem_singleton.mp hp]; exact Nat.lt_succ_self a) (Nat.lt_succ_of_lt hL) (Nat.le_succ_of_le hB)
      (fun y hy => ⟨fun v ev => let ⟨V, e1, e2⟩ := (hv y (List.mem_cons_of_mem _ hy)).1 v ev; ⟨V, e1, e2.grow _⟩, (hv y (List.mem_cons_of_mem _ hy)).2⟩)
    refine ⟨objs', ?_⟩
    rw [List.append_assoc, List.append_assoc] at X''
    exact X''
theorem number_mem : ∀ {xs : List Str} {a : Nat} {p : Str × Addr}, p ∈ number xs a → p.1 ∈ xs
  | x :: xs, a, p, h => by
    rcases List.mem_cons.mp h with rfl | h
    · exact List.mem_cons_self
    · exact List.mem_cons_of_mem _ (number_mem h)
theorem number_keys : ∀ (xs : List Str) (a : Nat), (number xs a).map (·.1) = xs
  | [], _ => rfl
  | x :: xs, a => by
    show x :: (number xs (a + 1)).map (·.1) = _
    rw [number_keys xs]
theorem number_cells : ∀ {xs : List Str} {a k : Nat} {ρ : List Addr}, k = ρ.length → A2 (CellR (ρ ++ (number xs a).map (·.2))) (number xs a) (number xs k)
  | [], _, _, _, _ => .nil
  | x :: xs, a, k, ρ, h => by
    refine .cons ⟨rfl, ?_⟩ ?_
    · show (ρ ++ (a :: (number xs (a + 1)).map (·.2)))[k]? = some a
      rw [h]; simp
    · have := number_cells (xs := xs) (a := a + 1) (k := k + 1) (ρ := ρ ++ [a]) (by rw [List.length_append, h]; rfl)
      rw [List.append_assoc] at this
      exact this
end

namespace Sys
variable {Y : Sys}
section
variable {n : Nat} {r : Rec} {cx : Cx} {fr : FI} {st st' st₁ : St} {ρ : List Addr} {s : Shared} {E : Value → Shared → Prop}

theorem frs_of (G : Y.Gd cx fr n ρ) (h : fr.fn = true) : Frs cx cx.A := ⟨(G.fn h).frames, (G.fn h).frame, G.kind, (G.fn h).outer, (G.fn h).kinds⟩
/-- where a function's own code table lies -/
noncomputable def TabOk (Y : Sys) (a : Nat) (F : Fn) (ρ : List Addr) : Prop := ∀ t, F.tab = some t → ∃ c P, (∀ oc od sl fd, Y.K.lookup a = some ⟨oc, od, .func fd, sl⟩ → fd.code = .ref c) ∧ CodeHd Y.B c P ∧ ρ[t]? = some P

theorem fn_enterW {a : Nat} {F : Fn} {vs : List V} {Vs : List Value} {bs : Loc} {C : Result → Shared → Prop} (hF : FnK Y.K a F) (tab : Y.TabOk a F ρ) (Gk : cx.env.scope.kind = .function) (Gh : cx.A.handled = none) (Gp : Ext Y.pre ρ) (Fo : FnOk Y.B cx fr ρ) (hdep : cx.A.depth + 1 + 2 * n ≤ 980) (huni : cx.A.units + 3 + 20 * n ≤ 9500)
    (R : Y.Rp cx st ρ s) (hbs : zipP F.params vs = some bs) (rv : A2 (VR ρ) vs Vs)
    (k : ∀ env' L' ρ₂ s₂, Ext ρ ρ₂ → Frs (cx.enter st.loc env' L') (cx.A.deeper env') → Y.Gd (cx.enter st.loc env' L') ⟨F.qual, F.names, (number (cellNames F.names) (len st.led)).reverse, F.tab, true⟩ n ρ₂ → Y.B.objs.size ≤ cx.L →
      Y.Rp (cx.enter st.loc env' L') ⟨app st.led (newCells bs (cellNames F.names)), bindLoc F.names bs⟩ ρ₂ s₂ →
      Y.wp (cx.A.deeper env') (execs F.body env') (fun f s' => C (.ok (.ret (match f with | .ret v => v | _ => .none))) s') (fun e s' => Y.wp (cx.A.deeper env') (leaving env' e) (fun _ s'' => C (.error e) s'') (fun e' s'' => C (.error e') s'') s') s₂) :
    codeAny (model Y.prog Y.w) cx.A (.call (.ref a) ⟨Vs, []⟩) C s := by
  obtain ⟨⟨oc, od, sl, name, params, scope, dV, kV, doc, pm, cdv, ct, an, hlk, hcd, hnames, hco, hgen, hk, hbind⟩, hnd, hcnd, hkinds, hcellk⟩ := hF
  obtain ⟨objs, fo, hid, m, X⟩ := R
  have hin := Y.D.X.keeps X.F.keep
  have ho := hin _ _ hlk
  obtain ⟨zk, zv⟩ := zipP_zip hbs
  have hlen : Vs.length = F.params.length := by rw [← rv.length, ← zv, ← zk, List.length_map, List.length_map]
  have hroom : cx.A.depth < recursionLimit := by
    have : recursionLimit = 1000 := by decide
    omega
  have br := zipP_rel hbs rv
  have bnd : ((F.params.zip Vs).map (·.1)).Nodup := by rw [List.map_fst_zip (Nat.le_of_eq hlen.symm)]; exact hnd
  have keyin : ∀ x ∈ F.params.zip Vs, x.1 ∈ F.params := fun x hx => by
    have : x.1 ∈ (F.params.zip Vs).map (·.1) := List.mem_map_of_mem hx
    rw [List.map_fst_zip (Nat.le_of_eq hlen.symm)] at this
    exact this
  refine codeAny_call_function hroom ho rfl hco hgen rfl (codeRec_of hin hcd) (hbind s Vs hlen _ _ _ _ ?_)
  have hcells : ∀ k, cellsFrom k scope.names [] = (number (cellNames F.names) k).reverse := fun k => by rw [cellsFrom_eq, List.append_nil, hnames]
  refine wpAny_newFunctionEnv_cells hk (fun x hx => ?_) fun env' he s' x => ?_
  · show scope.names.lookup x.1 = _ ∨ _
    rw [hnames]
    rcases hkinds x.1 (keyin x hx) with h1 | ⟨h1, h2⟩
    · exact .inl h1
    · refine .inr ⟨h1, ?_⟩
      rw [cellsFrom_eq, List.append_nil]
      have : x.1 ∈ ((number (cellNames F.names) (s.heap.objs.size + 1)).reverse).map (·.1) := by
        rw [List.map_reverse, number_keys]; exact List.mem_reverse.mpr h2
      cases e : ((number (cellNames F.names) (s.heap.objs.size + 1)).reverse).lookup x.1 with
      | some _ => rfl
      | none =>
        exfalso
        obtain ⟨p, hp, e2⟩ := List.mem_map.mp this
        have := List.lookup_eq_none_iff.mp e p hp
        rw [e2] at this
        simp at this
  subst he
  refine ⟨(Y.D.lim.keeps X.F.keep).keeps x.toInCall.keep, codeAny_func ?_⟩
  obtain ⟨h₁, tk, rfl⟩ := x.toInCall.same
  have hkind : ∀ y, (newEnv scope s.heap.objs.size mainGlobals (cellsFrom (s.heap.objs.size + 1) scope.names []) (F.qual ++ (".<locals>." : Str)) (some a) cdv none builtinsNs).kindOf y = lk F.names y := fun y => by
    rw [lk_lookup, ← hnames]; rfl
  have hbn : (bs.map (·.1)).Nodup := by rw [zk]; exact hnd
  obtain ⟨oL, X₁⟩ := X.enter (env := newEnv scope s.heap.objs.size mainGlobals (cellsFrom (s.heap.objs.size + 1) scope.names []) (F.qual ++ (".<locals>." : Str)) (some a) cdv none builtinsNs) (tk := tk) (l := bindLoc F.names bs) x.toInCall.ns x.toInCall.keep
    (fun y v e => by
      obtain ⟨e1, e2⟩ := bindLoc_lk e
      obtain ⟨V, e3, e4⟩ := (br_lk br y).1 v (e2 hbn)
      refine ⟨V, ?_, e4⟩
      rw [bindL_at _ _ _ _ bnd, e3]
      dsimp only
      rw [hkind, e1, if_pos rfl])
  have nk : ((number (cellNames F.names) (s.heap.objs.size + 1)).reverse.map (·.1)).Nodup := by
    rw [List.map_reverse, number_keys]; exact (List.reverse_perm _).nodup_iff.mpr hcnd
  obtain ⟨objs', X₂⟩ := X₁.cellsIn (bs := bs) (cm := bindC (newEnv scope s.heap.objs.size mainGlobals (cellsFrom (s.heap.objs.size + 1) scope.names []) (F.qual ++ (".<locals>." : Str)) (some a) cdv none builtinsNs).kindOf (F.params.zip Vs) fun _ => none)
    (xs := cellNames F.names) (a := s.heap.objs.size + 1)
    (fun p hp => x.cell p.1 p.2 (by
      show (cellsFrom (s.heap.objs.size + 1) scope.names []).lookup p.1 = some p.2
      rw [hcells]
      exact lookup_of_mem_nodup nk (List.mem_reverse.mpr hp)))
    (fun p hp => by
      rcases List.mem_cons.mp hp with rfl | hp
      · exact Nat.lt_succ_of_lt X.F.ns.lt
      · exact Nat.lt_succ_of_lt (X.lt p hp))
    (Nat.lt_succ_self _) (Nat.le_succ_of_le (Nat.le_trans X.F.above (Nat.le_of_lt X.F.ns.lt)))
    (fun y hy => by
      have hloc : lk F.names y ≠ some .local := fun z => by
        rw [lk_lookup, hcellk y hy] at z
        cases z
      refine ⟨fun v e => ?_, fun e => ?_⟩
      · obtain ⟨V, e3, e4⟩ := (br_lk br y).1 v e
        refine ⟨V, ?_, e4⟩
        rw [bindC_at _ _ _ _ bnd, e3]
        dsimp only
        rw [hkind, if_neg hloc]
      · rw [bindC_at _ _ _ _ bnd, (br_lk br y).2 e])
  have below := Nat.le_trans X.F.above (Nat.le_refl _)
  generalize henv : newEnv scope s.heap.objs.size mainGlobals (cellsFrom (s.heap.objs.size + 1) scope.names []) (F.qual ++ (".<locals>." : Str)) (some a) cdv none builtinsNs = env' at X₂ ⊢
  have W : Frs (cx.enter st.loc env' s.heap.objs.size) (cx.A.deeper env') := by
    refine ⟨?_, ?_, ?_, ?_, ?_⟩
    · exact Around.frames_deeper Fo.frames
    · rw [← henv]; rfl
    · rw [← henv]; exact hk
    · show cx.env.frame :: _ = some cx.L :: _
      rw [Fo.frame, Fo.outer]
    · intro e he
      rcases List.mem_cons.mp he with rfl | he
      · exact Gk
      · exact Fo.kinds e he
  have G' : Y.Gd (cx.enter st.loc env' s.heap.objs.size) ⟨F.qual, F.names, (number (cellNames F.names) (len st.led)).reverse, F.tab, true⟩ n (ρ ++ (number (cellNames F.names) (s.heap.objs.size + 1)).map (·.2)) := by
    refine ⟨W.kind, ?_, ?_, ?_, ?_, ?_, ?_, ?_, Gh, fun _ => ⟨W.frames, W.frame, ?_, W.outer, W.kinds, fun t ht => ?_⟩, Gp.trans ⟨_, rfl⟩⟩
    · show env'.scope.names = F.names
      rw [← henv]; exact hnames
    · show env'.locals = s.heap.objs.size
      rw [← henv]; rfl
    · show env'.globals = mainGlobals
      rw [← henv]; rfl
    · show env'.builtins = builtinsNs
      rw [← henv]; rfl
    · show A2 _ env'.cells _
      have : env'.cells = (number (cellNames F.names) (s.heap.objs.size + 1)).reverse := by rw [← henv]; exact hcells _
      rw [this]
      exact (number_cells (by rw [len_eq]; exact X.count)).reverse
    · exact hdep
    · exact huni
    · show env'.qual = _
      rw [← henv]; rfl
    · obtain ⟨c, P, t1, t2, t3⟩ := tab t ht
      refine ⟨c, P, ?_, t2, getElem?_grow t3⟩
      show env'.code = .ref c
      rw [← henv]
      exact t1 _ _ _ _ hlk
  rw [app_eq] at k
  exact k env' s.heap.objs.size _ _ ⟨_, rfl⟩ W G' below ⟨_, _, _, _, X₂⟩

theorem fn_enter {a : Nat} {F : Fn} {vs : List V} {Vs : List Value} {bs : Loc} {C : Result → Shared → Prop} (hF : FnK Y.K a F) (tab : Y.TabOk a F ρ) (G : Y.Gd cx fr n ρ) (hdep : cx.A.depth + 1 + 2 * n ≤ 980) (huni : cx.A.units + 3 + 20 * n ≤ 9500) (hfn : fr.fn = true)
    (R : Y.Rp cx st ρ s) (hbs : zipP F.params vs = some bs) (rv : A2 (VR ρ) vs Vs)
    (k : ∀ env' L' ρ₂ s₂, Ext ρ ρ₂ → Frs (cx.enter st.loc env' L') (cx.A.deeper env') → Y.Gd (cx.enter st.loc env' L') ⟨F.qual, F.names, (number (cellNames F.names) (len st.led)).reverse, F.tab, true⟩ n ρ₂ → Y.B.objs.size ≤ cx.L →
      Y.Rp (cx.enter st.loc env' L') ⟨app st.led (newCells bs (cellNames F.names)), bindLoc F.names bs⟩ ρ₂ s₂ →
      Y.wp (cx.A.deeper env') (execs F.body env') (fun f s' => C (.ok (.ret (match f with | .ret v => v | _ => .none))) s') (fun e s' => Y.wp (cx.A.deeper env') (leaving env' e) (fun _ s'' => C (.error e) s'') (fun e' s'' => C (.error e') s'') s') s₂) :
    codeAny (model Y.prog Y.w) cx.A (.call (.ref a) ⟨Vs, []⟩) C s :=
  fn_enterW hF tab G.kind G.hand G.pre (G.fn hfn) hdep huni R hbs rv k

theorem fn_codeW (S : Y.Snd n r) {a : Nat} {F : Fn} {vs : List V} {Vs : List Value} {res : Res} {led' : List O} {C : Result → Shared → Prop} (hF : FnK Y.K a F) (tab : Y.TabOk a F ρ) (Gk : cx.env.scope.kind = .function) (Gh : cx.A.handled = none) (Gp : Ext Y.pre ρ) (Fo : FnOk Y.B cx fr ρ) (hdep : cx.A.depth + 1 + 2 * n ≤ 980) (huni : cx.A.units + 3 + 20 * n ≤ 9500)
    (R : Y.Rp cx st ρ s) (h : callFn r F vs st.led = some (res, led')) (rv : A2 (VR ρ) vs Vs) (q : Y.Ans cx res ⟨led', st.loc⟩ ρ (fun v s' => C (.ok (.ret v)) s') (fun e s' => C (.error e) s')) : codeAny (model Y.prog Y.w) cx.A (.call (.ref a) ⟨Vs, []⟩) C s := by
  unfold callFn at h
  split at h
  case h_2 => cases h
  rename_i bs hbs
  refine fn_enterW hF tab Gk Gh Gp Fo hdep huni R hbs rv fun env' L' ρ₂ s₂ ext W G' below R₂ => ?_
  split at h
  · rename_i st₃ h1
    cases h
    refine S.ex (cx.enter st.loc env' L') _ F.body _ .next st₃ _ _ _ _ h1 G' R₂ fun ρ₃ s₃ x₃ R₃ => ?_
    obtain ⟨_, _, _, _, X₃⟩ := R₃
    exact q _ _ _ (ext.trans x₃) .none (X₃.ret below)
  · rename_i v st₃ h1
    cases h
    refine S.ex (cx.enter st.loc env' L') _ F.body _ (.ret v) st₃ _ _ _ _ h1 G' R₂ fun ρ₃ V s₃ x₃ rv₃ R₃ => ?_
    obtain ⟨_, _, _, _, X₃⟩ := R₃
    exact q _ _ _ (ext.trans x₃) rv₃ (X₃.ret below)
  · rename_i c f st₃ h1
    cases h
    refine S.ex (cx.enter st.loc env' L') _ F.body _ (.ex c f) st₃ _ _ _ _ h1 G' R₂ fun ρ₃ V s₃ x₃ R₃ => ?_
    obtain ⟨e, _, _, _, _, fl, rfl, X₃, ex, hfl⟩ := R₃
    refine leave_go W X₃ below ex hfl fun h' objs₄ fo₄ hid₄ m₄ X₄ ex₄ => ?_
    exact q _ _ _ (ext.trans x₃) ⟨e, _, _, _, _, _, rfl, X₄, ex₄, .inr rfl⟩
  · cases h
theorem fn_code (S : Y.Snd n r) {a : Nat} {F : Fn} {vs : List V} {Vs : List Value} {res : Res} {led' : List O} {C : Result → Shared → Prop} (hF : FnK Y.K a F) (tab : Y.TabOk a F ρ) (G : Y.Gd cx fr n ρ) (hdep : cx.A.depth + 1 + 2 * n ≤ 980) (huni : cx.A.units + 3 + 20 * n ≤ 9500) (hfn : fr.fn = true)
    (R : Y.Rp cx st ρ s) (h : callFn r F vs st.led = some (res, led')) (rv : A2 (VR ρ) vs Vs) (q : Y.Ans cx res ⟨led', st.loc⟩ ρ (fun v s' => C (.ok (.ret v)) s') (fun e s' => C (.error e) s')) : codeAny (model Y.prog Y.w) cx.A (.call (.ref a) ⟨Vs, []⟩) C s :=
  fn_codeW S hF tab G.kind G.hand G.pre (G.fn hfn) hdep huni R h rv q
theorem fn_go (S : Y.Snd n r) {a : Nat} {F : Fn} {vs : List V} {Vs : List Value} {res : Res} {led' : List O} {Q : Value → Shared → Prop} (hF : FnK Y.K a F) (tab : Y.TabOk a F ρ) (G : Y.Gd cx fr (n + 1) ρ) (hfn : fr.fn = true) (R : Y.Rp cx st ρ s)
    (h : callFn r F vs st.led = some (res, led')) (rv : A2 (VR ρ) vs Vs) (q : Y.Ans cx res ⟨led', st.loc⟩ ρ Q E) : Y.wp cx.A (call (.ref a) Vs) Q E s := by
  refine wpAny_call (fn_code S hF tab G.down (by have := G.dep; omega) (by have := G.uni; omega) hfn R h rv ?_)
  cases res with
  | ok v => exact q
  | ex c f => exact q
end
end Sys
end Mine
end

section
open PySem PySem.W PyProof.Rows PySem.Calls
set_option autoImplicit false
namespace Mine

theorem bb_lookup : typeLookup (.type "bytes") "__bytes__" = pure (some (.builtin "bytes.__bytes__")) := by rw [typeLookup_type, builtinLookup_eq_fast]; kernel_rfl
section
variable {prog : Program} {w : World} {A : Around} {E : Value → Shared → Prop} {s : Shared}
theorem bb_new {b : Array UInt8} {t : Tok} {Q : Value → Shared → Prop} (hQ : Q (.bytes b t) s) :
    codeAny (model prog w) A (.call (.builtin "bytes.__new__") ⟨[.type "bytes", .bytes b t], []⟩) (wants Q E) s := by
  refine codeAny_of_tree ?_
  show wpAny _ A.in1 (do checkBuiltinCall "bytes.__new__" ⟨[.type "bytes", .bytes b t], []⟩; again (.builtin "bytes.__new__" ⟨[.type "bytes", .bytes b t], []⟩)) _ _ s
  refine wpAny_bind (wpAny_of_eq (F.bm_newCall _) (wpAny_pure ⟨plainId_quiet F.bm_plain _, codeAny_builtin F.bm_entry ?_⟩))
  rw [Around.under_plainId F.bm_plain _]
  have hT : s.TypeIs (.bytes b t) "bytes" := typeIs_bytes s b t
  unfold Builtin.«bytes.__new__»
  refine wpAny_bind (wpAny_of_eq (a := true) rfl ?_)
  refine bm_if_false rfl ?_
  refine wpAny_bind (wpAny_of_eq F.bm_sub ?_)
  refine bm_if_false rfl ?_
  refine wpAny_bind (wpAny_of_eq (F.bm_bind _) ?_)
  refine wpAny_bind (wpAny_of_eq (a := ()) rfl ?_)
  refine wpAny_bind (wpAny_of_eq (a := ()) rfl ?_)
  refine bm_if_false rfl ?_
  refine wpAny_bind (wpAny_specialOf hT bb_lookup ?_)
  refine wpAny_bind (wpAny_rule ?_)
  refine wpAny_bind (wpAny_typeOf hT ?_)
  refine bm_if_true rfl ?_
  exact wpAny_pure hQ
theorem call_bytes_bytes {b : Array UInt8} {t : Tok} {Q : Value → Shared → Prop} (hQ : Q (.bytes b t) s) : wpAny (model prog w) A (call (.type "bytes") [.bytes b t]) Q E s := by
  refine callType_codes (Q₁ := fun obj s₁ => s₁.TypeIs obj "bytes" ∧ Q obj s₁) F.bm_called (F.bm_typeCall _) F.entry_object_init
    (bb_new ⟨typeIs_bytes _ _ _, hQ⟩) fun obj s₁ h₁ => ?_
  exact ⟨h₁.1, F.args_object_init_2 obj _, object_init_meets F.bm_called.init.lookup F.bm_called.made (by decide) prog w A.in1 _ s₁ ⟨h₁.1, rfl, h₁.2⟩⟩
end

namespace Sys
variable {Y : Sys}
section
variable {n : Nat} {r : Rec} {cx : Cx} {fr : FI} {st st' st₁ : St} {ρ : List Addr} {s : Shared} {E : Value → Shared → Prop}

theorem callLst_go {k : Nat} {la : Addr} {res : Res} {Q : Value → Shared → Prop} (h : callLst (nth st.led k) st = some (res, st')) (R : Y.Rp cx st ρ s) (ha : ρ[k]? = some la) (q : Y.Ans cx res st' ρ Q E) :
    Y.wp cx.A (call (.type "list") [.ref la]) Q E s := by
  rw [nth_eq] at h
  unfold callLst at h
  split at h
  · rename_i xs e
    split at h
    · rename_i hz
      cases h
      obtain ⟨objs, fo, hid, m, X⟩ := R
      obtain ⟨vs, c, r1, _, _, l1⟩ := X.list e ha
      refine list_copyK X.F X.N l1 (fun D c' h' F' N' hD => ?_) (by rw [r1.toArray_size, sizeLine_eq]; have := small_le hz; omega)
      rw [app_eq, len_eq] at q
      exact q _ _ _ (Ext.snoc _ D) (loc_last X.count) ⟨_, _, _, _, X.push (tk := s.toks) F' N' hD (.list (n := c') (vrs_grow r1 _))⟩
    · cases h
  · cases h

theorem callBI_go {b : BI} {vs : List V} {Vs : List Value} {res : Res} {Q : Value → Shared → Prop}
    (hsort : ∀ (k : Nat) (la : Addr), callSorted (nth st.led k) st = some (res, st') → ρ[k]? = some la → Y.wp cx.A (call (.builtin "sorted") [.ref la]) Q E s)
    (h : callBI b vs st = some (res, st')) (G : Y.Gd cx fr n ρ) (R : Y.Rp cx st ρ s) (rv : A2 (VR ρ) vs Vs) (q : Y.Ans cx res st' ρ Q E) : Y.wp cx.A (call (biV b) Vs) Q E s := by
  unfold callBI at h
  split at h
  · split at h
    · rename_i b
      split at h
      · rename_i hz
        cases h
        cases rv with | cons r1 rv => cases rv; cases r1 with | bytes _ t =>
        have hz := small_le hz
        refine len_bytes (by rw [List.size_toArray]; omega) ?_
        rw [len_eq] at q
        rw [List.size_toArray]
        exact q _ _ _ (Ext.refl _) (.int _ _) (R.tok _)
      · cases h
    · cases h
  · split at h
    · cases h
      cases rv with | cons r1 rv => cases rv with | cons r2 rv =>
      cases rv; cases r1; cases r2
      obtain ⟨objs, fo, hid, m, X⟩ := R
      exact max_two_N G.hand X.F X.N fun h' tk F' N' => q _ _ _ (Ext.refl _) (.int _ _) ⟨_, _, _, _, X.re F' N'⟩
    · cases h
  · split at h
    · cases h
      cases rv with | cons r1 rv => cases rv with | cons r2 rv =>
      cases rv; cases r1; cases r2
      obtain ⟨objs, fo, hid, m, X⟩ := R
      exact min_two_N G.hand X.F X.N fun h' tk F' N' => q _ _ _ (Ext.refl _) (.int _ _) ⟨_, _, _, _, X.re F' N'⟩
    · cases h
  · split at h
    · split at h
      · cases h
        cases rv with | cons r1 rv =>
        cases rv; cases r1
        exact call_bytes_bytes (q _ _ _ (Ext.refl _) (.bytes _ _) R)
      · cases h
    · cases h
  · split at h
    · cases rv with | cons r1 rv => cases rv; cases r1 with | loc ha =>
      exact callLst_go h R ha q
    · cases h
  · split at h
    · cases rv with | cons r1 rv => cases rv; cases r1 with | loc ha =>
      exact hsort _ _ h ha
    · cases h
  · cases h
end
end Sys
end Mine
end

section
open PySem PySem.W PyProof.Rows PySem.Calls
set_option autoImplicit false
namespace Mine
namespace Sys

/-- the law's helpers, told: they answer True and leave all as it is -/
noncomputable def PrimOk (Y : Sys) : Prop := ∀ (cx : Cx) (fr : FI) (st : St) (ρ : List Addr) (s : Shared) (a : Nat) (vs : List V) (Vs : List Value) (Q : Value → Shared → Prop) (E : Value → Shared → Prop),
  prim a vs = true → tabsIn (nth st.led 1) (nth st.led 2) = true → A2 (VR ρ) vs Vs → Y.Gd cx fr 46 ρ → fr.fn = true → Y.Rp cx st ρ s → (∀ s', Y.Rp cx st ρ s' → Q (.bool true) s') → Y.wp cx.A (call (.ref a) Vs) Q E s
/-- a draw -/
noncomputable def NextOk (Y : Sys) (orc : Nat → Int → Option Int) : Prop := ∀ (cx : Cx) (fr : FI) (st : St) (ρ : List Addr) (s : Shared) (k : Nat) (ka : Addr) (c : Nat) (m : Int) (t : Tok) (Q : Value → Shared → Prop) (E : Value → Shared → Prop),
  2 ≤ m → m ≤ 8 → c ≤ 1000 → st.led[k]? = some (.pen c) → ρ[k]? = some ka → Y.Gd cx fr 1 ρ → fr.fn = true → Y.Rp cx st ρ s →
  (∀ v u s', 0 ≤ v → v < m → (∀ w, orc (c + 1) m = some w → v = w) → Y.Rp cx ⟨st.led.set k (.pen (c + 1)), st.loc⟩ ρ s' → Q (.int v u) s') → Y.wp cx.A (call (.ref 165) [.ref ka, .int m t]) Q E s
/-- `covered` -/
noncomputable def CovOk (Y : Sys) : Prop := ∀ (cx : Cx) (fr : FI) (st : St) (ρ : List Addr) (s : Shared) (k : Nat) (ka : Addr) (xs : List V) (v : V) (led : List O) (Q : Value → Shared → Prop) (E : Value → Shared → Prop),
  st.led[k]? = some (.list xs) → small xs = true → coveredGo st.led xs st.led [] = some (v, led) → ρ[k]? = some ka → Y.Gd cx fr 1 ρ → fr.fn = true → Y.Rp cx st ρ s → Y.AnsV cx v ⟨led, st.loc⟩ ρ Q → Y.wp cx.A (call (.ref 53) [.ref ka]) Q E s
/-- a sort of one or two pairs -/
noncomputable def SortOk (Y : Sys) : Prop := ∀ (cx : Cx) (fr : FI) (st : St) (ρ : List Addr) (s : Shared) (k : Nat) (ka : Addr) (xs ys : List V) (Q : Value → Shared → Prop) (E : Value → Shared → Prop),
  st.led[k]? = some (.list xs) → sorted2 st.led xs = some ys → ρ[k]? = some ka → Y.Gd cx fr 1 ρ → Y.Rp cx st ρ s → Y.AnsV cx (.loc st.led.length) ⟨st.led ++ [.list ys], st.loc⟩ ρ Q → Y.wp cx.A (call (.builtin "sorted") [.ref ka]) Q E s
/-- an object made: the class called -/
noncomputable def NewOk (Y : Sys) : Prop := ∀ (n : Nat) (r : Rec) (cx : Cx) (fr : FI) (st st' : St) (ρ : List Addr) (s : Shared) (vs : List V) (Vs : List Value) (res : Res) (Q : Value → Shared → Prop) (E : Value → Shared → Prop),
  Y.Snd n r → callNew r vs st = some (res, st') → A2 (VR ρ) vs Vs → Y.Gd cx fr (n + 1) ρ → fr.fn = true → Y.Rp cx st ρ s → Y.Ans cx res st' ρ Q E → Y.wp cx.A (call (.ref 147) Vs) Q E s
/-- `_law_told(lambda: ..)` -/
noncomputable def ToldOk (Y : Sys) : Prop := ∀ (n : Nat) (r : Rec) (cx : Cx) (fr : FI) (st st' : St) (ρ : List Addr) (s : Shared) (f : Str) (ps : Arguments) (body : Expr) (sc : Scope) (pos fp cp : Pos) (res : Res) (Q : Value → Shared → Prop) (E : Value → Shared → Prop),
  (∀ H, (∀ p ∈ Y.ns.hid, p ∈ H) → ({ Y with ns := ⟨H, Y.ns.pen⟩ } : Sys).Snd n r) → evTold r fr f ps body sc pos st = some (res, st') → Y.Gd cx fr (n + 1) ρ → Y.Rp cx st ρ s → Y.Ans cx res st' ρ Q E → Y.wp cx.A (eval (.Call (.Name f fp) [.Lambda ps body sc pos] [] cp) cx.env) Q E s
/-- `raise QuicError(a, b, 'text')` -/
noncomputable def RaiseOk (Y : Sys) : Prop := ∀ (n : Nat) (r : Rec) (cx : Cx) (fr : FI) (st st' : St) (ρ : List Addr) (s : Shared) (q : Str) (a b : Expr) (x : Str) (k : Nat) (qp kp cp pos : Pos) (f : Flo) (Q : Flow → Shared → Prop) (E : Value → Shared → Prop),
  small x.cps.toList = true → isStar a = false → isStar b = false → Y.Snd n r → exRaise r fr q a b st = some (f, st') → Y.Gd cx fr (n + 1) ρ → Y.Rp cx st ρ s → Y.AnsF cx f st' ρ Q E → Y.wp cx.A (exec (.Raise (some (.Call (.Name q qp) [a, b, .Constant (.str x) k kp] [] cp)) none pos) cx.env) Q E s
structure Con (Y : Sys) (n : Nat) (r : Rec) : Prop where
  told : Y.ToldOk
  raise : Y.RaiseOk
  prim : r.pr = true → 45 ≤ n ∧ Y.PrimOk
  next : Y.NextOk r.orc
  cov : Y.CovOk
  sort : Y.SortOk
  new : Y.NewOk

variable {Y : Sys}
section
variable {n : Nat} {r : Rec} {cx : Cx} {fr : FI} {st st' st₁ : St} {ρ : List Addr} {s : Shared} {E : Value → Shared → Prop}

theorem bindRes_some {x : Option (Res × List O)} {loc : Loc} {res : Res} (h : bindRes x loc = some (res, st')) : x = some (res, st'.led) ∧ st' = ⟨st'.led, loc⟩ := by
  unfold bindRes at h
  split at h
  · cases h; exact ⟨rfl, rfl⟩
  · cases h
theorem tab_none {a : Nat} {F : Fn} (h : F.tab = none) : Y.TabOk a F ρ := fun t e => by rw [h] at e; cases e
theorem Gd.le {m k : Nat} (G : Y.Gd cx fr m ρ) (h : k ≤ m) : Y.Gd cx fr k ρ :=
  ⟨G.kind, G.names, G.loc, G.glo, G.bui, G.cells, by have := G.dep; omega, by have := G.uni; omega, G.hand, G.fn, G.pre⟩

theorem callDef_go (C : Y.Con n r) (S : Y.Snd n r) {a : Nat} {vs : List V} {Vs : List Value} {res : Res} {Q : Value → Shared → Prop} (h : callDef r a vs st = some (res, st')) (G : Y.Gd cx fr (n + 1) ρ) (hfn : fr.fn = true) (R : Y.Rp cx st ρ s) (rv : A2 (VR ρ) vs Vs)
    (q : Y.Ans cx res st' ρ Q E) : Y.wp cx.A (call (.ref a) Vs) Q E s := by
  unfold callDef at h
  split at h
  · rename_i hp
    cases h
    rw [Bool.and_eq_true, Bool.and_eq_true] at hp
    obtain ⟨⟨p1, p2⟩, p3⟩ := hp
    obtain ⟨hn, P⟩ := C.prim p1
    exact P cx fr st ρ s a vs Vs Q E p2 p3 rv (Gd.le G (by omega)) hfn R fun s' R' => q _ _ _ (Ext.refl _) (.bool _) R'
  · split at h
    · rename_i F hF
      split at h
      · rename_i ht
        obtain ⟨h1, h2⟩ := bindRes_some h
        exact fn_go S (Y.D.kf.keeps a F hF).2 (tab_none ht) G hfn R h1 rv (by rw [← h2]; exact q)
      · cases h
    · cases h

theorem callTop_go (C : Y.Con n r) (S : Y.Snd n r) {a : Nat} {vs : List V} {Vs : List Value} {res : Res} {Q : Value → Shared → Prop} (h : callTop r a vs st = some (res, st')) (G : Y.Gd cx fr (n + 1) ρ) (hfn : fr.fn = true) (R : Y.Rp cx st ρ s) (rv : A2 (VR ρ) vs Vs)
    (q : Y.Ans cx res st' ρ Q E) : Y.wp cx.A (call (.ref a) Vs) Q E s := by
  unfold callTop at h
  split at h
  · exact C.new n r cx fr st st' ρ s vs Vs res Q E S h rv G hfn R q
  · split at h
    · cases rv with | cons r1 rv =>
      cases rv
      cases r1 with | loc ha =>
      rw [nth_eq] at h
      unfold callCovered at h
      split at h
      · rename_i xs e
        split at h
        · rename_i hz
          split at h
          · rename_i v led h1
            cases h
            exact C.cov cx fr st ρ s _ _ xs v led Q E e hz h1 ha (Gd.le G (by omega)) hfn R q
          · cases h
        · cases h
      · cases h
    · cases h
  · split at h
    · cases rv with | cons r1 rv => cases rv with | cons r2 rv =>
      cases rv
      cases r1 with | loc ha => cases r2 with | int _ t =>
      rw [nth_eq] at h
      unfold callNext at h
      split at h
      · rename_i k m c e
        split at h
        · rename_i hb
          rw [Bool.and_eq_true, Bool.and_eq_true] at hb
          obtain ⟨⟨b1, b2⟩, b3⟩ := hb
          have b1 := of_decide_eq_true b1
          have b2 := of_decide_eq_true b2
          refine C.next cx fr st ρ s _ _ _ _ t Q E b1 b2 (Nat.le_of_ble_eq_true b3) e ha (Gd.le G (by omega)) hfn R fun v u s' v0 v1 hw R' => ?_
          rw [setL_eq] at h
          split at h
          · rename_i w hw'
            cases h
            have := hw w hw'
            subst this
            exact q _ _ _ (Ext.refl _) (.int _ _) R'
          · cases h
            exact q _ _ _ (Ext.refl _) (.any _ v0 (by rw [Int.toNat_of_nonneg (by omega)]; exact v1)) R'
        · cases h
      · cases h
    · cases h
  · exact callDef_go C S h G hfn R rv q

theorem callV_go (C : Y.Con n r) (S : Y.Snd n r) {f : V} {F : Value} {vs : List V} {Vs : List Value} {res : Res} {Q : Value → Shared → Prop} (h : callV r f vs st = some (res, st')) (rf : VR ρ f F) (G : Y.Gd cx fr (n + 1) ρ) (hfn : fr.fn = true) (R : Y.Rp cx st ρ s) (rv : A2 (VR ρ) vs Vs)
    (q : Y.Ans cx res st' ρ Q E) : Y.wp cx.A (call F Vs) Q E s := by
  unfold callV at h
  split at h
  · cases rf
    refine callBI_go (fun k la hs ha => ?_) h G R rv q
    rw [nth_eq] at hs
    unfold callSorted at hs
    split at hs
    · rename_i xs e
      split at hs
      · rename_i ys h1
        cases hs
        rw [app_eq, len_eq] at q
        exact C.sort cx fr st ρ s k la xs ys Q E e h1 ha (Gd.le G (by omega)) R q
      · cases hs
    · cases hs
  · cases rf
    exact callTop_go C S h G hfn R rv q
  · cases h
end
end Sys
end Mine
end

section
open PySem PySem.W PyProof.Rows PySem.Calls
set_option autoImplicit false
namespace Mine

theorem RepX.around {ns : Par} {S₀ : Shared} {B : Heap} {cx cx' : Cx} {st : St} {ρ : List Addr} {s : Shared} {objs : List Obj} {fo hid : Hid} {m : Str → Option Value} (X : RepX ns S₀ B cx st ρ s objs fo hid m)
    (e1 : cx'.L = cx.L) (e2 : cx'.fas = cx.fas) (e3 : cx'.stk = cx.stk) : RepX ns S₀ B cx' st ρ s objs fo hid m :=
  ⟨by rw [e1]; exact X.F, by rw [e1]; exact X.N, X.nd, X.len, X.led, by rw [e2]; exact X.fas, by rw [e3]; exact X.stk, X.loc, X.sh, X.old⟩

namespace Sys
variable {Y : Sys}
section
variable {n : Nat} {r : Rec} {cx : Cx} {fr : FI} {st st' st₁ : St} {ρ : List Addr} {s : Shared} {E : Value → Shared → Prop}

theorem Rp.around {cx' : Cx} (R : Y.Rp cx st ρ s) (e1 : cx'.L = cx.L) (e2 : cx'.fas = cx.fas) (e3 : cx'.stk = cx.stk) : Y.Rp cx' st ρ s :=
  let ⟨objs, fo, hid, m, X⟩ := R
  ⟨objs, fo, hid, m, X.around e1 e2 e3⟩

theorem new_ok : Y.NewOk := by
  intro n r cx fr st st' ρ s vs Vs res Q E S h rv G hfn R q
  unfold callNew at h
  split at h
  case h_2 => cases h
  rename_i F hF
  split at h
  case h_2 => cases h
  rename_i ht
  split at h
  case h_2 => cases h
  rename_i led h1
  cases h
  obtain ⟨objs, fo, hid, m, X⟩ := R
  refine call_cls X.F Y.D.X X.N Y.D.kf.makes Y.D.kf.init Y.D.kf.initF fun x dx h' F' N' hD hx => ?_
  rw [app_eq, len_eq] at h1
  rw [len_eq] at q
  have N1 : News Y.B cx.L h' ((dx, dictOf [] 0) :: newsOf fo hid ρ objs) := fun p hp => N' p (List.mem_cons_of_mem _ hp)
  have X1 := X.push (tk := s.toks) F' N1 hD (.dict (n := 0) .nil (Nat.zero_le _))
  have e : newsOf fo hid (ρ ++ [dx]) (objs ++ [dictOf [] 0]) = newsOf fo hid ρ objs ++ [(dx, dictOf [] 0)] := by
    show fo ++ (hid ++ (ρ ++ [dx]).zip (objs ++ [dictOf [] 0])) = fo ++ (hid ++ ρ.zip objs) ++ [(dx, dictOf [] 0)]
    rw [zip_snoc X.len, List.append_assoc, List.append_assoc]
  have hin : ∀ p ∈ newsOf fo hid (ρ ++ [dx]) (objs ++ [dictOf [] 0]), p ∈ newsOf fo hid ρ objs ∨ p = (dx, dictOf [] 0) := fun p hp => by
    rw [e] at hp
    rcases List.mem_append.mp hp with hp | hp
    · exact .inl hp
    · exact .inr (List.mem_singleton.mp hp)
  have N2 : News Y.B cx.L h' ((x, instObj 147 dx) :: newsOf fo hid (ρ ++ [dx]) (objs ++ [dictOf [] 0])) := fun p hp => by
    rcases List.mem_cons.mp hp with rfl | hp
    · exact N' _ List.mem_cons_self
    · rcases hin p hp with hp | rfl
      · exact N' p (List.mem_cons_of_mem _ (List.mem_cons_of_mem _ hp))
      · exact N' _ (List.mem_cons_of_mem _ List.mem_cons_self)
  have hd : (ρ ++ [dx] ++ [x])[st.led.length]? = some dx := by rw [X.count]; simp
  have X2 := X1.push (h' := h') (tk := s.toks) (x := .inst st.led.length) F' N2 (fun p hp => by
    rcases hin p hp with hp | rfl
    · exact Nat.lt_trans (hD p hp) hx
    · exact hx) (.inst hd)
  have ext : Ext ρ (ρ ++ [dx] ++ [x]) := ⟨[dx, x], by rw [List.append_assoc]; rfl⟩
  have hxl : (ρ ++ [dx] ++ [x])[st.led.length + 1]? = some x := by rw [X.count]; simp
  have G2 : Y.Gd { cx with A := cx.A.under (.builtin "type.__call__" ⟨.ref 147 :: Vs, []⟩) } fr n (ρ ++ [dx] ++ [x]) := by
    have G3 := G.ext ext
    have Fo := G3.fn
    refine ⟨G3.kind, G3.names, G3.loc, G3.glo, G3.bui, G3.cells, ?_, ?_, G3.hand, fun hf => ⟨(Fo hf).frames, (Fo hf).frame, (Fo hf).qual, (Fo hf).outer, (Fo hf).kinds, (Fo hf).tab⟩, G3.pre⟩
    · have := G.dep
      show cx.A.depth + 1 + 2 * n ≤ 980
      omega
    · have := G.uni
      show cx.A.units + 1 + 20 * n ≤ 9500
      omega
  have R2 : Y.Rp { cx with A := cx.A.under (.builtin "type.__call__" ⟨.ref 147 :: Vs, []⟩) } ⟨st.led ++ [O.dict []] ++ [O.inst st.led.length], st.loc⟩ (ρ ++ [dx] ++ [x]) { s with heap := h' } :=
    ⟨_, _, _, _, X2.around (cx' := { cx with A := cx.A.under (.builtin "type.__call__" ⟨.ref 147 :: Vs, []⟩) }) rfl rfl rfl⟩
  have h2 : callFn r F (.loc (st.led.length + 1) :: vs) (st.led ++ [O.dict []] ++ [O.inst st.led.length]) = some (.ok .none, led) := by rw [List.append_assoc]; exact h1
  refine fn_code S (Y.D.kf.keeps 74 F hF).2 (tab_none ht) G2 ?_ ?_ hfn R2 h2 (.cons (.loc hxl) (vrs_ext rv ext)) fun ρ' V s' x' rV R' => ?_
  · have := G.dep
    show cx.A.depth + 1 + 1 + 2 * n ≤ 980
    omega
  · have := G.uni
    show cx.A.units + 1 + 3 + 20 * n ≤ 9500
    omega
  · cases rV
    exact ⟨rfl, q ρ' _ s' (ext.trans x') (.loc (x'.at hxl)) (Rp.around R' rfl rfl rfl)⟩
end
end Sys
end Mine
end

section
open PySem PySem.W PyProof.Rows PySem.Calls
set_option autoImplicit false
namespace Mine
namespace Sys
variable {Y : Sys}
section
variable {n : Nat} {r : Rec} {cx : Cx} {fr : FI} {st st' st₁ : St} {ρ : List Addr} {s : Shared} {E : Value → Shared → Prop}

theorem call_ok (C : Y.Con n r) (S : Y.Snd n r) {f : Str} {fp pos : Pos} {args : List Expr} {res : Res} {Q : Value → Shared → Prop} (h : evFn r fr f args st = some (res, st')) (G : Y.Gd cx fr (n + 1) ρ) (R : Y.Rp cx st ρ s) (q : Y.Ans cx res st' ρ Q E) :
    Y.wp cx.A (eval (.Call (.Name f fp) args [] pos) cx.env) Q E s := by
  unfold evFn at h
  split at h
  · cases h
  · rename_i hfn
    split at h
    · rename_i fv h1
      split at h
      · rename_i vs st₁ h2
        refine Call_ (name_go Y.D G R h1 fun F rf => ?_)
        have hc : Y.Callable F := by
          unfold callV at h
          split at h
          · cases rf
            rename_i b
            cases b <;> first | exact .inl ⟨_, rfl⟩ | exact .inr (.inl ⟨_, rfl⟩)
          · cases rf
            refine .inr (.inr ?_)
            unfold callTop at h
            split at h
            · exact Y.D.kf.keepC
            · exact Y.D.kf.keep53
            · exact Y.D.kf.keep165
            · unfold callDef at h
              split at h
              · rename_i hp
                rw [Bool.and_eq_true, Bool.and_eq_true] at hp
                have hp := hp.1.2
                obtain ⟨F, hF⟩ := prim_F hp
                exact (Y.D.kf.keeps _ F hF).1
              · split at h
                · rename_i F hF
                  exact (Y.D.kf.keeps _ F hF).1
                · cases h
          · cases h
        refine args_go S hc h2 G.down R fun ρ₁ Vs s₁ x₁ r₁ R₁ G₁ => ?_
        exact callV_go C S h (rf.ext x₁) (G.ext x₁) hfn R₁ r₁ (Ans.ext q x₁)
      · cases h
    · cases h

theorem all_no : ∀ {l : List (Bool × Sem Value)}, l.any (·.1) = false → l.all (!·.1) = true
  | [], _ => rfl
  | x :: l, h => by
    rw [List.any_cons, Bool.or_eq_false_iff] at h
    rw [List.all_cons, h.1, all_no h.2]; rfl
theorem MethCall {M : Model} {A : Around} {env : Env} {o name : Str} {op apos pos : Pos} {args : List Expr} {Q : Value → Shared → Prop} (hs : (backTo pos (starEach args env)).any (·.1) = false) (hl : args.length < 30) (hp : apos.endLine = pos.line)
    (h : wpAny M A (eval (.Name o op) env) (fun ov s₁ => ∀ pl, wpAny M A (getMethod ov name pl) (fun fx s₂ => wpAny M A (callWith pos fx.1 fx.2 (backTo pos (starEach args env)) []) Q E s₂) E s₁) E s) :
    wpAny M A (eval (.Call (.Attribute (.Name o op) name apos) args [] pos) env) Q E s := by
  show wpAny M A (do
    let ov ← eval (.Name o op) env
    standAt apos.atName
    methodCall (.Name o op) name apos pos env ov (args.length + 0) (backTo pos (starEach args env)) []) Q E s
  refine wpAny_bind (wpAny_mono h (fun ov s₁ h₁ => wpAny_bind (wpAny_standAt ?_)) fun _ _ x => x)
  have few : methodCallForm (args.length + 0) (backTo pos (starEach args env)) [] = true := by
    unfold methodCallForm
    rw [all_no hs]
    show (true && true && decide (args.length + 0 + 0 < 30)) = true
    rw [decide_eq_true (by omega)]; rfl
  unfold methodCall
  rw [few]
  refine wpAny_bind (wpAny_holding (wpAny_mono (h₁ _) (fun fx s₂ h₂ => ?_) fun _ _ x => x))
  obtain ⟨f, first⟩ := fx
  have e : methodCallPos true (.Name o op) env apos pos = pure pos := by
    unfold methodCallPos
    rw [hp]
    simp
  rw [e]
  exact wpAny_bind (wpAny_pure h₂)
theorem meth_ok (S : Y.Snd n r) {o name : Str} {op ap pos : Pos} {args : List Expr} {res : Res} {Q : Value → Shared → Prop} (hp : ap.endLine = pos.line) (hl : args.length < 30) (h : evMeth r fr o name args st = some (res, st')) (G : Y.Gd cx fr (n + 1) ρ) (R : Y.Rp cx st ρ s) (q : Y.Ans cx res st' ρ Q E) :
    Y.wp cx.A (eval (.Call (.Attribute (.Name o op) name ap) args [] pos) cx.env) Q E s := by
  unfold evMeth at h
  split at h
  · cases h
  · rename_i hfn
    split at h
    · rename_i ov h1
      split at h
      · rename_i mm h2
        split at h
        · rename_i vs st₁ h3
          refine MethCall (evs_star h3 pos cx.env) hl hp (name_go Y.D G R h1 fun O' ro pl => ?_)
          obtain ⟨objs, fo, hid, m, X⟩ := id R
          unfold methOf at h2
          split at h2
          · rename_i d fs hf
            unfold methIn at h2
            split at h2
            · cases h2
            · rename_i hn
              split at h2
              · rename_i a ha
                cases h2
                obtain ⟨k, x, dx, sl, es, c, rfl, rfl, _, _, er, _, I⟩ := X.inst hf ro
                obtain ⟨f1, f2, f3⟩ := Y.D.kf.meths name a ha
                refine method_inst X.F Y.D.X I (Y.D.kf.plain name) f1 f2 ((er_get er).2 hn) ?_
                refine args_go S (.inr (.inr f3)) h3 G.down R fun ρ₁ Vs s₁ x₁ r₁ R₁ G₁ => ?_
                unfold callMeth callMethod at h
                dsimp only at h
                split at h
                · rename_i F hF
                  split at h
                  · rename_i ht
                    obtain ⟨e1, e2⟩ := bindRes_some h
                    exact fn_go S (Y.D.kf.keeps a F hF).2 (tab_none ht) (G.ext x₁) hfn R₁ e1 (.cons (ro.ext x₁) r₁) (by rw [← e2]; exact Ans.ext q x₁)
                  · cases h
                · cases h
              · cases h2
          · split at h2
            · rename_i k
              rw [nth_eq] at h2
              unfold appIn at h2
              split at h2
              · rename_i xs e
                split at h2
                · rename_i hname
                  cases h2
                  cases ro with
                  | @loc _ la hk =>
                  obtain ⟨_, c, _, _, l0, _⟩ := X.list e hk
                  rw [eqS_true hname]
                  refine Calls.getMethod_list_append l0 rfl rfl ?_
                  refine args_go S (.inl ⟨_, rfl⟩) h3 G.down R fun ρ₁ Vs s₁ x₁ r₁ R₁ G₁ => ?_
                  unfold callMeth callAppend at h
                  dsimp only at h
                  rw [nth_eq] at h
                  split at h
                  · rename_i ys e2
                    split at h
                    · split at h
                      · rename_i v hz
                        cases h
                        cases r₁ with | cons r2 r3 =>
                        cases r3
                        have hk₁ := x₁.at hk
                        obtain ⟨objs₁, fo₁, hid₁, m₁, X₁⟩ := R₁
                        obtain ⟨vs, c₁, rl, ho, _, _⟩ := X₁.list e2 hk₁
                        refine append_K X₁.F X₁.N (updL_upd X₁.nd (X₁.mem hk₁ ho)) (fun h' F' N' => ?_) (by rw [rl.toArray_size, sizeLine_eq]; have := small_le hz; omega)
                        rw [app_eq, setL_eq] at q
                        refine q _ _ _ x₁ .none ⟨_, _, _, _, X₁.upd (tk := s₁.toks) hk₁ F' N' ?_⟩
                        rw [List.push_toArray]
                        exact .list (n := c₁ + 1) (rl.append (.cons r2 .nil))
                      · cases h
                    · cases h
                  · cases h
                · cases h2
              · cases h2
            · cases h2
        · cases h
      · cases h
    · cases h
end
end Sys
end Mine
end

section
open PySem PySem.W PyProof.Rows PySem.Calls
set_option autoImplicit false
namespace Mine

section
variable {ns : Par} {S₀ : Shared} {B : Heap} {cx : Cx} {st : St} {ρ : List Addr} {s : Shared} {objs : List Obj} {fo hid : Hid} {m : Str → Option Value} {d : Addr} {o : Obj}

/-- a hidden object goes to the ledger -/
theorem RepX.reveal (X : RepX ⟨(d, o) :: ns.hid, ns.pen⟩ S₀ B cx st ρ s objs fo hid m) {x : O} (hn : NotTab o) (off : ∀ p ∈ ns.hid, p.1 ≠ d) (ok : ∀ hid', OR ns hid' (ρ ++ [d]) x o) :
    Rep ns S₀ B cx ⟨st.led ++ [x], st.loc⟩ (ρ ++ [d]) s := by
  have hm : (d, o) ∈ hid := X.old _ List.mem_cons_self
  have sub : (newsOf fo (hid.filter fun p => p.1 != d) ρ objs).Sublist (newsOf fo hid ρ objs) := (List.Sublist.refl fo).append (List.filter_sublist.append (List.Sublist.refl _))
  have hne : ∀ p ∈ newsOf fo (hid.filter fun p => p.1 != d) ρ objs, p.1 ≠ d := by
    have h := X.nd
    rw [show newsOf fo hid ρ objs = fo ++ (hid ++ ρ.zip objs) from rfl, List.map_append, List.map_append] at h
    have h1 := List.nodup_append.mp h
    have h2 := List.nodup_append.mp h1.2.1
    have hd : d ∈ hid.map (·.1) := List.mem_map.mpr ⟨_, hm, rfl⟩
    intro p hp e
    rcases List.mem_append.mp hp with hp | hp
    · exact h1.2.2 p.1 (List.mem_map_of_mem hp) d (List.mem_append_left _ hd) e
    · rcases List.mem_append.mp hp with hp | hp
      · have := (List.mem_filter.mp hp).2
        exact absurd e (bne_iff_ne.mp this)
      · exact h2.2.2 d hd p.1 (List.mem_map_of_mem hp) e.symm
  have e : newsOf fo (hid.filter fun p => p.1 != d) (ρ ++ [d]) (objs ++ [o]) = newsOf fo (hid.filter fun p => p.1 != d) ρ objs ++ [(d, o)] := by
    show fo ++ (_ ++ (ρ ++ [d]).zip (objs ++ [o])) = fo ++ (_ ++ ρ.zip objs) ++ [(d, o)]
    rw [zip_snoc X.len, List.append_assoc, List.append_assoc]
  refine ⟨objs ++ [o], fo, hid.filter fun p => p.1 != d, m, ⟨X.F, fun p hp => ?_, ?_, by rw [List.length_append, List.length_append, X.len]; rfl, A2.append (X.led.mono fun _ _ r => ?_) (.cons (ok _) .nil), X.fas, X.stk.mono fun _ _ r => r.grow _, X.loc.grow _, X.sh, fun p hp => ?_⟩⟩
  · rw [e] at hp
    rcases List.mem_append.mp hp with hp | hp
    · exact X.N p (sub.subset hp)
    · rw [List.mem_singleton.mp hp]; exact X.N _ (X.hidMem hm)
  · rw [e, List.map_append, List.nodup_append]
    refine ⟨X.nd.sublist (sub.map _), by simp, fun b hb c hc => ?_⟩
    obtain ⟨p, hp, rfl⟩ := List.mem_map.mp hb
    simp only [List.map_cons, List.map_nil, List.mem_singleton] at hc
    rw [hc]
    exact hne p hp
  · have := r.other X.hidNodup hm hn (hid' := hid.filter fun p => p.1 != d) fun p hp hne => List.mem_filter.mpr ⟨hp, bne_iff_ne.mpr hne⟩
    exact OR.re (ns := ⟨(d, o) :: ns.hid, ns.pen⟩) rfl (this.grow [d] fun _ h => h)
  · exact List.mem_filter.mpr ⟨X.old p (List.mem_cons_of_mem _ hp), bne_iff_ne.mpr (off p hp)⟩

/-- back in the caller's frame; the callee's own object goes to the hidden ones -/
theorem RepX.retHide {cx' : Cx} {l : Loc} {st' : St} (X : RepX ns S₀ B cx' st' ρ s objs fo hid m) (e1 : cx'.fas = cx.L :: cx.fas) (e2 : cx'.stk = l :: cx.stk) (above : B.objs.size ≤ cx.L) :
    ∃ o es ep, o.data = .dict es ep ∧ StrKeys es ∧ (∀ x, nsFind es x = m x) ∧ Rep ⟨(cx'.L, o) :: ns.hid, ns.pen⟩ S₀ B cx ⟨st'.led, l⟩ ρ s := by
  obtain ⟨oC, esC, epC, hC, hCd, hCk, hCf⟩ := X.F.ns
  have hf := X.fas
  have hs := X.stk
  have nd := X.nd
  have N := X.N
  have F := X.F
  rw [e1] at hf
  rw [e2] at hs
  cases fo with
  | nil => cases hf
  | cons p fo =>
  obtain ⟨L₀, oL⟩ := p
  have e : L₀ = cx.L := (List.cons.inj hf).1
  subst e
  cases hs with
  | cons hp hs =>
  obtain ⟨es, ep, hd, hk, hv⟩ := hp
  have z := N (cx.L, oL) List.mem_cons_self
  have nd' : cx.L ∉ (newsOf fo hid ρ objs).map (·.1) ∧ ((newsOf fo hid ρ objs).map (·.1)).Nodup := List.nodup_cons.mp nd
  refine ⟨oC, esC, epC, hCd, hCk, hCf, objs, fo, (cx'.L, oC) :: hid, fun x => nsFind es x, ⟨⟨⟨oL, es, ep, z.1, hd, hk, fun _ => rfl⟩, F.keep, above⟩, fun q hq => ?_, ?_, X.len, X.led.mono fun _ _ r => ?_, (List.cons.inj hf).2, hs, hv, X.sh, fun p hp => ?_⟩⟩
  · have hq' : q = (cx'.L, oC) ∨ q ∈ newsOf fo hid ρ objs := by
      rcases List.mem_append.mp hq with hq | hq
      · exact .inr (List.mem_append_left _ hq)
      · rcases List.mem_cons.mp hq with rfl | hq
        · exact .inl rfl
        · exact .inr (List.mem_append_right _ hq)
    rcases hq' with rfl | hq
    · exact ⟨hC, Ne.symm z.2.1, none_at F.above⟩
    · have y := N q (List.mem_cons_of_mem _ hq)
      exact ⟨y.1, fun e => nd'.1 (List.mem_map.mpr ⟨q, hq, e⟩), y.2.2⟩
  · show ((fo ++ ((cx'.L, oC) :: (hid ++ ρ.zip objs))).map (·.1)).Nodup
    rw [List.map_append, List.map_cons, List.perm_middle.nodup_iff, ← List.map_append, List.nodup_cons]
    refine ⟨fun hm => ?_, nd'.2⟩
    obtain ⟨p, hp, e⟩ := List.mem_map.mp hm
    exact (N p (List.mem_cons_of_mem _ hp)).2.1 e
  · have := r.grow (hid' := (cx'.L, oC) :: hid) [] (fun p hp => List.mem_cons_of_mem _ hp)
    rw [List.append_nil] at this
    exact OR.re (ns := ns) rfl this
  · rcases List.mem_cons.mp hp with rfl | hp
    · exact List.mem_cons_self
    · exact List.mem_cons_of_mem _ (X.old p hp)
end

namespace Sys
variable {Y : Sys}
section
variable {n : Nat} {r : Rec} {cx : Cx} {fr : FI} {st st' st₁ : St} {ρ : List Addr} {s : Shared} {E : Value → Shared → Prop}

theorem isFree_beq (k : NameKind) : (k == NameKind.free) = isFree k := by cases k <;> rfl
theorem cellsGo_go (G : Y.Gd cx fr n ρ) : ∀ {names : List (Str × NameKind)} {acc cells : List (Str × Nat)} {cl : List (Str × Addr)}, cellsGo fr names acc = some cells → A2 (CellR ρ) cl acc →
    ∃ cl', A2 (CellR ρ) cl' cells ∧ (forIn names cl fun x c => (do if x.2 == NameKind.free then (do let a ← cellOf cx.env x.1; pure (ForInStep.yield ((x.1, a) :: c))) else pure (ForInStep.yield c) : Sem (ForInStep (List (Str × Addr))))) = pure cl'
  | [], acc, cells, cl, h, r => by
    cases h
    exact ⟨cl, r, rfl⟩
  | p :: ps, acc, cells, cl, h, r => by
    obtain ⟨x, k⟩ := p
    unfold cellsGo at h
    dsimp only at h
    split at h
    · rename_i hk
      split at h
      · rename_i kk hkk
        obtain ⟨c, e1, e2⟩ := G.cell hkk
        obtain ⟨cl', r', e'⟩ := cellsGo_go G h (A2.cons (a := (x, c)) (b := (x, kk)) ⟨rfl, e2⟩ r)
        refine ⟨cl', r', ?_⟩
        rw [List.forIn_cons]
        dsimp only
        rw [isFree_beq, hk, if_pos rfl]
        have : cellOf cx.env x = pure c := by unfold cellOf; rw [e1]
        rw [this]
        simp only [pure_bind]
        exact e'
      · cases h
    · rename_i hk
      obtain ⟨cl', r', e'⟩ := cellsGo_go G h r
      refine ⟨cl', r', ?_⟩
      rw [List.forIn_cons]
      dsimp only
      rw [isFree_beq, hk, if_neg Bool.false_ne_true]
      simp only [pure_bind]
      exact e'
theorem closure_go (G : Y.Gd cx fr n ρ) {sc : Scope} {cells : List (Str × Nat)} (h : lamCells fr sc = some cells) : ∃ cl, closureFor sc cx.env = pure cl ∧ A2 (CellR ρ) cl cells := by
  obtain ⟨cl, r, e⟩ := cellsGo_go G h .nil
  refine ⟨cl, ?_, r⟩
  unfold closureFor
  exact (bind_pure _).trans e

theorem cellO_beq (k : Option NameKind) : (k == some NameKind.cell) = isCellO k := by
  cases k with
  | none => rfl
  | some k => cases k <;> rfl
theorem relabel_names (G : Y.Gd cx fr n ρ) (sc : Scope) : (relabel sc cx.env).names = relabelN fr.names sc.names := by
  show sc.names.map _ = _
  generalize sc.names = names
  induction names with
  | nil => rfl
  | cons p ps ih =>
    obtain ⟨x, k⟩ := p
    rw [List.map_cons, ih]
    show (if (k == NameKind.free && cx.env.scope.kind == .function && cx.env.kindOf x == some .cell) = true then (x, NameKind.cell) else (x, k)) :: _ = (match isFree k && isCellO (lk fr.names x) with | true => (x, NameKind.cell) | false => (x, k)) :: _
    rw [isFree_beq, G.kind, cellO_beq, lk_names G]
    cases isFree k <;> cases isCellO (lk fr.names x) <;> rfl
end
end Sys
end Mine
end

section
open PySem PySem.W PyProof.Rows PySem.Calls
set_option autoImplicit false
namespace Mine

theorem RepX.weak {ns : Par} {S₀ : Shared} {B : Heap} {cx : Cx} {st : St} {ρ : List Addr} {s : Shared} {objs : List Obj} {fo hid : Hid} {m : Str → Option Value} (X : RepX ns S₀ B cx st ρ s objs fo hid m) {l : Loc}
    (h : ∀ x v, lk l x = some v → lk st.loc x = some v) : RepX ns S₀ B cx ⟨st.led, l⟩ ρ s objs fo hid m :=
  ⟨X.F, X.N, X.nd, X.len, X.led, X.fas, X.stk, fun x v e => X.loc x v (h x v e), X.sh, X.old⟩
theorem list_no (vs : Array Value) (n : Nat) : NotTab (PySem.W.listOf vs n) := fun ws q t e => by cases e
theorem swap2 {p q : Addr × Obj} {H hid : Hid} (h : ∀ x ∈ p :: q :: H, x ∈ hid) : ∀ x ∈ q :: p :: H, x ∈ hid := fun x hx => by
  rcases List.mem_cons.mp hx with rfl | hx
  · exact h _ (List.mem_cons_of_mem _ List.mem_cons_self)
  · rcases List.mem_cons.mp hx with rfl | hx
    · exact h _ List.mem_cons_self
    · exact h _ (List.mem_cons_of_mem _ (List.mem_cons_of_mem _ hx))

namespace Sys
variable {Y : Sys}
section
variable {n : Nat} {r : Rec} {cx : Cx} {fr : FI} {st st' st₁ : St} {ρ : List Addr} {s : Shared} {E : Value → Shared → Prop}

theorem compGo_succ (fr : FI) (x y : Str) (test : Expr) (k i : Nat) (led : List O) (acc : List V) : compGo r fr x y test (k + 1) i led acc = match r.tst fr test ⟨led, [(x, .int i)]⟩ with
    | some (b, st) => match b with
      | true => match evName fr st y with
        | some v => compGo r fr x y test k (i + 1) st.led (app acc [v])
        | none => none
      | false => compGo r fr x y test k (i + 1) st.led acc
    | none => none := rfl

theorem comp_loop (S : Y.SndA n r) {x y : Str} {xp yp pos : Pos} {test iter : Expr} {sc : Scope} {vs : List V} {led led' : List O} {l : Loc} {N c : Nat} {I D : Addr} {R' : Result → Shared → Prop} (G : Y.Gd cx fr n ρ) (hx : lk fr.names x = some .local)
    (hI : ∀ p ∈ Y.ns.hid, p.1 ≠ I) (hD : ∀ p ∈ Y.ns.hid, p.1 ≠ D) (hID : I ≠ D) (hN : N ≤ 100) (h : compGo r fr x y test N 0 led [] = some (vs, led'))
    (R : (Y.at' ((I, itR ((0 : Nat) : Int) (N : Int)) :: (D, PySem.W.listOf ([] : List Value).toArray c) :: Y.ns.hid)).Rp cx ⟨led, l⟩ ρ s)
    (q : ∀ ρ' s' l Vs c, Ext ρ ρ' → A2 (VR ρ') vs Vs → (Y.at' ((D, PySem.W.listOf Vs.toArray c) :: Y.ns.hid)).Rp cx ⟨led', l⟩ ρ' s' → R' (.ok .next) s') :
    codeAny (model Y.prog Y.w) cx.A (.compLoop (.ListComp (.Name y yp) [⟨.Name x xp, iter, [test], 0⟩] sc pos) 0 (.ref I) (.ref D) cx.env) R' s := by
  refine codeAny_compLoop_tests (fun k s' => ∃ i led acc Vs c l ρ', compGo r fr x y test k i led acc = some (vs, led') ∧ Ext ρ ρ' ∧ i + k = N ∧ acc.length ≤ i ∧ A2 (VR ρ') acc Vs ∧
    (Y.at' ((I, itR (i : Int) (k : Int)) :: (D, PySem.W.listOf Vs.toArray c) :: Y.ns.hid)).Rp cx ⟨led, l⟩ ρ' s') ?_ N ⟨0, led, [], [], c, l, ρ, h, Ext.refl _, Nat.zero_add _, Nat.le_refl _, .nil, R⟩
  clear R h
  rintro k s' ⟨i, led, acc, Vs, c, l, ρ', h, x1, hik, hal, rA, objs, fo, hid, mm, X⟩
  have hm : (I, itR (i : Int) (k : Int)) ∈ hid := X.old _ List.mem_cons_self
  have hit : IsRangeIter s'.heap I (i : Int) (k : Int) 1 := (X.N _ (X.hidMem hm)).1
  have offI : ∀ p ∈ (D, PySem.W.listOf Vs.toArray c) :: Y.ns.hid, p.1 ≠ I := fun p hp => by
    rcases List.mem_cons.mp hp with rfl | hp
    · exact Ne.symm hID
    · exact hI p hp
  cases k with
  | zero =>
    cases h
    refine wpAny_pyNext_range_end G.hand hit (Int.le_refl _) fun h' hs => ?_
    exact q _ _ _ _ _ x1 rA (RepX.unhide (ns := ⟨(D, PySem.W.listOf Vs.toArray c) :: Y.ns.hid, Y.ns.pen⟩) (tk := s'.toks) X hs (itR_no _ _) offI)
  | succ k =>
  rw [compGo_succ] at h
  refine wpAny_pyNext_range_item hit (by omega) fun h' hit' hs => ?_
  have e1 : ((i : Int) + 1) = ((i + 1 : Nat) : Int) := by omega
  have e2 : (((k + 1 : Nat) : Int) - 1) = (k : Int) := by omega
  rw [e1, e2] at hit'
  have X' := RepX.hidUpd (ns := ⟨(D, PySem.W.listOf Vs.toArray c) :: Y.ns.hid, Y.ns.pen⟩) (tk := s'.toks + 1) X hs hit' (itR_no _ _) offI
  refine wpAny_bind (wpAny_standAt ?_)
  have hst : store fr ⟨led, l⟩ x (.int i) = some ⟨led, put x (.int i) l⟩ := by
    unfold store
    rw [hx]
  refine bind_go (Y := Y.at' ((I, itR ((i + 1 : Nat) : Int) (k : Int)) :: (D, PySem.W.listOf Vs.toArray c) :: Y.ns.hid)) (G.ext x1) ⟨_, _, _, _, X'⟩ hst (.int _ _) fun s₂ R₂ => ?_
  refine wpAny_tests_one ?_
  have R₂' : (Y.at' ((I, itR ((i + 1 : Nat) : Int) (k : Int)) :: (D, PySem.W.listOf Vs.toArray c) :: Y.ns.hid)).Rp cx ⟨led, [(x, .int i)]⟩ ρ' s₂ := by
    obtain ⟨_, _, _, _, X₂⟩ := R₂
    refine ⟨_, _, _, _, X₂.weak fun z v e => ?_⟩
    rw [lk_cons, lk_nil] at e
    show lk (put x (.int i) l) z = some v
    rw [lk_put]
    cases hz : eqS z x with
    | true => rw [hz] at e; rw [eqS_true hz, if_pos rfl]; exact e
    | false => rw [hz] at e; cases e
  split at h
  · rename_i b st₁ h1
    refine (S ((I, itR ((i + 1 : Nat) : Int) (k : Int)) :: (D, PySem.W.listOf Vs.toArray c) :: Y.ns.hid) fun _ hp => List.mem_cons_of_mem _ (List.mem_cons_of_mem _ hp)).ts cx fr test _ b st₁ ρ' s₂ _ _ h1 (G.ext x1) R₂' fun ρ₃ s₃ x₃ R₃ => ?_
    cases b with
    | true =>
      dsimp only at h
      rw [if_pos rfl]
      split at h
      · rename_i v h2
        have R₃' := R₃
        refine name_go Y.D ((G.ext x1).ext x₃) R₃ h2 fun V rv => ?_
        obtain ⟨objs₃, fo₃, hid₃, m₃, X₃⟩ := R₃'
        have X₄ : RepX ⟨(D, PySem.W.listOf Vs.toArray c) :: (I, itR ((i + 1 : Nat) : Int) (k : Int)) :: Y.ns.hid, Y.ns.pen⟩ Y.S₀ Y.B cx st₁ ρ₃ s₃ objs₃ fo₃ hid₃ m₃ := X₃.par rfl (swap2 X₃.old)
        have hDm := X₄.old _ List.mem_cons_self
        have hVl : Vs.toArray.size = acc.length := by rw [List.size_toArray, rA.length]
        refine append_at (X₄.N _ (X₄.hidMem hDm)).1 (fun h₅ hs₅ hD₅ => ?_) (by rw [hVl, sizeLine_eq]; omega)
        have X₅ := RepX.hidUpd (ns := ⟨(I, itR ((i + 1 : Nat) : Int) (k : Int)) :: Y.ns.hid, Y.ns.pen⟩) (tk := s₃.toks) X₄ hs₅ hD₅ (list_no _ _) (fun p hp => by
          rcases List.mem_cons.mp hp with rfl | hp
          · exact hID
          · exact hD p hp)
        rw [app_eq] at h
        rw [List.push_toArray] at X₅
        exact ⟨k, Nat.lt_succ_self k, i + 1, st₁.led, acc ++ [v], Vs ++ [V], c + 1, st₁.loc, ρ₃, h, x1.trans x₃, by omega, by rw [List.length_append]; exact Nat.succ_le_succ hal, (vrs_ext rA x₃).append (.cons rv .nil), _, _, _, _, X₅.par rfl (swap2 X₅.old)⟩
      · cases h
    | false =>
      dsimp only at h
      rw [if_neg Bool.false_ne_true]
      exact ⟨k, Nat.lt_succ_self k, i + 1, st₁.led, acc, Vs, c, st₁.loc, ρ₃, h, x1.trans x₃, by omega, Nat.le_succ_of_le hal, vrs_ext rA x₃, R₃⟩
  · cases h
end
end Sys
end Mine
end

section
open PySem PySem.W PyProof.Rows PySem.Calls
set_option autoImplicit false
namespace Mine
theorem dict_no {o : Obj} {es : Array DictEntry} {ep : Nat} (h : o.data = .dict es ep) : NotTab o := fun vs q t e => by rw [h] at e; cases e
namespace Sys
variable {Y : Sys}
section
variable {n : Nat} {r : Rec} {cx : Cx} {fr : FI} {st st' st₁ : St} {ρ : List Addr} {s : Shared} {E : Value → Shared → Prop}

theorem all_mem {α : Type} {f : α → Bool} {l : List α} (h : l.all f = true) : ∀ x ∈ l, f x = true := List.all_eq_true.mp h
structure ScOk (sc : Scope) : Prop where
  gen : sc.isGenerator = false
  co : sc.isCoroutine = false
  kind : sc.kind = .function
  cells : ∀ y ∈ sc.names, y.2 ≠ .cell
theorem okScope_of {sc : Scope} (h : okScope sc = true) : ScOk sc := by
  unfold okScope at h
  rw [Bool.and_eq_true, Bool.and_eq_true, Bool.and_eq_true] at h
  obtain ⟨⟨⟨h1, h2⟩, h3⟩, h4⟩ := h
  refine ⟨by cases q : sc.isGenerator <;> simp_all, by cases q : sc.isCoroutine <;> simp_all, ?_, fun y hy e => ?_⟩
  · split at h3
    · assumption
    · cases h3
  · have := all_mem h4 y hy
    rw [e] at this
    cases this
theorem isLoc_self {k : NameKind} (h : k = .local) : isLoc (some k) = true := by rw [h]; rfl

theorem sComp_ok (S : Y.SndA n r) {x y z rg : Str} {xp yp zp rp cp ip pos spos : Pos} {kp : Nat} {k : Int} {test : Expr} {sc : Scope} {f : Flo} {Q : Flow → Shared → Prop}
    (h : exComp r fr (Nat.beq xp.line pos.line) x y z rg k test sc st = some (f, st')) (G : Y.Gd cx fr n ρ) (R : Y.Rp cx st ρ s) (q : Y.AnsF cx f st' ρ Q E) :
    Y.wp cx.A (exec (.Assign [.Name x xp] (.ListComp (.Name y yp) [⟨.Name z zp, .Call (.Name rg rp) [.Constant (.int k) kp cp] [] ip, [test], 0⟩] sc pos) spos) cx.env) Q E s := by
  unfold exComp at h
  split at h
  case h_2 => cases h
  rename_i hc
  rw [Bool.and_eq_true] at hc
  obtain ⟨hl, hc⟩ := hc
  unfold compOk at hc
  simp only [Bool.and_eq_true] at hc
  obtain ⟨⟨⟨⟨⟨⟨⟨⟨c1, c2⟩, c3⟩, c4⟩, c5⟩, c6⟩, c7⟩, c8⟩, c9⟩ := hc
  have sco := okScope_of c3
  have c5 := of_decide_eq_true c5
  have c6 := of_decide_eq_true c6
  split at h
  case h_2 => cases h
  rename_i h1
  split at h
  case h_2 => cases h
  rename_i cells h2
  split at h
  case h_2 => cases h
  rename_i vs led h3
  obtain ⟨h4, rfl⟩ := floNext_some h
  obtain ⟨cl, hclos, rcl⟩ := closure_go G h2
  have hsw : swapsWith (.ListComp (.Name y yp) [⟨.Name z zp, .Call (.Name rg rp) [.Constant (.int k) kp cp] [] ip, [test], 0⟩] sc pos) (some (.Name x xp)) spos.line cx.env = pure true := by
    show pure (cx.env.blockKind == .function && cx.env.kindOf x == some .local && xp.line == pos.line && !(sc.names.any fun (n, k) => n == x && (k == .local || k == .cell))) = pure true
    have e1 : (cx.env.blockKind == .function) = true := by
      have := block_fn G
      rw [bne, Bool.not_eq_false'] at this
      exact this
    have e2 : cx.env.kindOf x = some .local := by rw [lk_names G]; exact isLoc_some c7
    have e3 : xp.line = pos.line := Nat.eq_of_beq_eq_true hl
    have e4 : (sc.names.any fun (n, k) => n == x && (k == .local || k == .cell)) = false := by
      rw [List.any_eq_false]
      intro p hp
      have := all_mem c8 p hp
      obtain ⟨pn, pk⟩ := p
      dsimp only at this ⊢
      rw [← eqS_beq]
      intro hb
      rw [Bool.and_eq_true] at hb
      rw [hb.1] at this
      cases pk <;> first | (cases this; done) | (exact absurd hb.2 (by decide))
    rw [e1, e2, e3, e4, beq_self_eq_true, beq_self_eq_true]
    rfl
  rw [exec_Assign_Name_used _ _ _ _ hsw]
  refine wpAny_bind (wpAny_standAt (wpAny_bind ?_))
  show wpAny _ cx.A (do let _ ← comprehension (.ListComp (.Name y yp) [⟨.Name z zp, .Call (.Name rg rp) [.Constant (.int k) kp cp] [] ip, [test], 0⟩] sc pos) sc cx.env _ (newList []) false (eval (.Call (.Name rg rp) [.Constant (.int k) kp cp] [] ip) cx.env) (some (assign (.Name x xp) cx.env))) _ _ s
  refine wpAny_bind (wpAny_mono (wpAny_comprehension_free (use := some (assign (.Name x xp) cx.env)) (Q := fun _ s' => Q .next s') rfl (fun _ => rfl) hclos sco.kind ?hn ?hh) (fun _ s' hq => wpAny_pure (wpAny_pure hq)) fun _ _ e => e)
  case hn =>
    intro p hp e
    have := all_mem c9 p hp
    rw [isLoc_self e] at this
    rw [← lk_lookup]
    exact isLoc_some this
  obtain ⟨z1, z2⟩ := small_k c5 c6
  refine range_go G R h1 fun a t u v s₁ ha R₁ => wpAny_pyIter_range ha z1 ?_
  rw [z2]
  have ek : k = ((k.toNat : Nat) : Int) := (Int.toNat_of_nonneg c5).symm
  obtain ⟨objs, fo, hid, m, X⟩ := R₁
  have X₁ := X.hide (tk := s₁.toks) (X.F.push { cls := .type "range_iterator", data := .fields #[rawInt 0, rawInt k, rawInt 1] }) (X.N.push X.F _) X.lt
  refine newList_N X₁.F X₁.N (fun h₂ F₂ N₂ => ?_) (by rw [sizeLine_eq]; simp)
  have X₂ := X₁.hide (tk := s₁.toks) F₂ N₂ X₁.lt
  have hsz₁ : (s₁.heap.push { cls := .type "range_iterator", data := .fields #[rawInt 0, rawInt k, rawInt 1] }).objs.size = s₁.heap.objs.size + 1 := Heap.size_push ..
  refine wpAny_newFunctionEnv sco.cells (by intro y hy; cases hy) (fun h₃ hns hsb => ?_) sco.kind
  have keep : ∀ b o, h₂.get? b = some o → h₃.get? b = some o := fun b o e => hsb.extBut b o (Nat.ne_of_lt (Heap.lt_size e)) (Heap.get?_push_of_some _ e)
  obtain ⟨oL, X₃⟩ := X₂.enter (env := compEnvC sc cl h₂.objs.size cx.env) (tk := s₁.toks + ([] : List (Str × Value)).length) (l := []) hns keep (fun x v e => by rw [lk_nil] at e; cases e)
  have offI : ∀ p ∈ Y.ns.hid, p.1 ≠ s₁.heap.objs.size := fun p hp => Nat.ne_of_lt (X.lt p (X.hidMem (X.old p hp)))
  have offD : ∀ p ∈ Y.ns.hid, p.1 ≠ (s₁.heap.push { cls := .type "range_iterator", data := .fields #[rawInt 0, rawInt k, rawInt 1] }).objs.size := fun p hp => by
    rw [hsz₁]; exact Nat.ne_of_lt (Nat.lt_succ_of_lt (X.lt p (X.hidMem (X.old p hp))))
  have X₄ := X₃.around (cx' := ⟨cx.A, compEnvC sc cl h₂.objs.size cx.env, h₂.objs.size, cx.L :: cx.fas, st.loc :: cx.stk, cx.env :: cx.outer⟩) rfl rfl rfl
  have G₄ : Y.Gd ⟨cx.A, compEnvC sc cl h₂.objs.size cx.env, h₂.objs.size, cx.L :: cx.fas, st.loc :: cx.stk, cx.env :: cx.outer⟩ ⟨fr.qual, relabelN fr.names sc.names, cells, none, false⟩ n ρ :=
    ⟨sco.kind, relabel_names G sc, rfl, G.glo, G.bui, rcl, G.dep, G.uni, G.hand, fun e => (by cases e), G.pre⟩
  have hz : lk (relabelN fr.names sc.names) z = some .local := by
    rw [← relabel_names G sc, lk_lookup]
    exact lookup_relabel_local (by rw [← lk_lookup]; exact isLoc_some c4)
  have loop : codeAny (model Y.prog Y.w) cx.A (.compLoop (.ListComp (.Name y yp) [⟨.Name z zp, .Call (.Name rg rp) [.Constant (.int k) kp cp] [] ip, [test], 0⟩] sc pos) 0 (.ref s₁.heap.objs.size) (.ref (s₁.heap.push { cls := .type "range_iterator", data := .fields #[rawInt 0, rawInt k, rawInt 1] }).objs.size) (compEnvC sc cl h₂.objs.size cx.env))
      (compPost (model Y.prog Y.w) cx.A E (some (assign (.Name x xp) cx.env)) (fun _ s' => Q .next s') (.ref (s₁.heap.push { cls := .type "range_iterator", data := .fields #[rawInt 0, rawInt k, rawInt 1] }).objs.size) h₂.objs.size) { s₁ with heap := h₃, toks := s₁.toks + ([] : List (Str × Value)).length } := by
    refine comp_loop S (c := 0) (l := []) (cx := ⟨cx.A, compEnvC sc cl h₂.objs.size cx.env, h₂.objs.size, cx.L :: cx.fas, st.loc :: cx.stk, cx.env :: cx.outer⟩) G₄ hz offI offD (by rw [hsz₁]; exact Nat.ne_of_lt (Nat.lt_succ_self _)) (by omega) h3 ?_ fun ρ' s' l Vs c x' rV R' => ?_
    · rw [← ek]
      exact ⟨_, _, _, _, X₄.par rfl (swap2 X₄.old)⟩
    · obtain ⟨objs', fo', hid', m', X'⟩ := R'
      obtain ⟨oC, esC, epC, hCd, hCk, hCf, objs₅, fo₅, hid₅, m₅, X₅⟩ := X'.retHide (cx := cx) (l := st.loc) rfl rfl X.F.above
      have offC : ∀ p ∈ Y.ns.hid, p.1 ≠ h₂.objs.size := fun p hp => Nat.ne_of_lt (X₂.lt p (X₂.hidMem (X₂.old p (List.mem_cons_of_mem _ (List.mem_cons_of_mem _ hp)))))
      have X₆ : RepX ⟨((s₁.heap.push { cls := .type "range_iterator", data := .fields #[rawInt 0, rawInt k, rawInt 1] }).objs.size, PySem.W.listOf Vs.toArray c) :: (h₂.objs.size, oC) :: Y.ns.hid, Y.ns.pen⟩ Y.S₀ Y.B cx ⟨led, st.loc⟩ ρ' s' objs₅ fo₅ hid₅ m₅ := X₅.par rfl (swap2 X₅.old)
      have R₇ := RepX.reveal (ns := ⟨(h₂.objs.size, oC) :: Y.ns.hid, Y.ns.pen⟩) (x := .list vs) X₆ (list_no _ _) (fun p hp => by
        rcases List.mem_cons.mp hp with rfl | hp
        · have := (X₅.N _ (X₅.hidMem (X₅.old _ List.mem_cons_self)))
          have y := X₂.lt _ (X₂.hidMem (X₂.old _ List.mem_cons_self))
          exact Nat.ne_of_gt y
        · exact offD p hp) (fun hid' => .list (n := c) (vrs_grow rV _))
      rw [app_eq, len_eq] at h4
      have cnt : led.length = ρ'.length := X₅.count
      refine wpAny_bind (wpAny_standAt (bind_go (Y := Y.at' ((h₂.objs.size, oC) :: Y.ns.hid)) (G.ext (x'.trans (Ext.snoc _ _))) R₇ h4 (loc_last cnt) fun s₈ R₈ => ?_))
      obtain ⟨objs₈, fo₈, hid₈, m₈, X₈⟩ := R₈
      have hC₈ := (X₈.N _ (X₈.hidMem (X₈.old _ List.mem_cons_self))).1
      refine ⟨_, ⟨oC, esC, epC, hC₈, hCd, hCk, fun _ => rfl⟩, fun h' hs => ?_⟩
      exact q _ _ (x'.trans (Ext.snoc _ _)) (RepX.unhide (tk := s₈.toks) X₈ hs.extBut (dict_no hCd) offC)
  have hit : IsRangeIter h₃ s₁.heap.objs.size 0 k 1 := (X₃.N _ (X₃.hidMem (X₃.old _ (List.mem_cons_of_mem _ List.mem_cons_self)))).1
  exact codeAny_compStart_list loop (wpAny_pyIter_rangeiter hit loop)
end
end Sys
end Mine
end

section
open PySem PySem.W PyProof.Rows PySem.Calls
set_option autoImplicit false
namespace Mine

inductive Viewed : Expr → View → Prop
  | const {c : Const} {k : Nat} {p : Pos} : Viewed (.Constant c k p) (.const c)
  | name {x : Str} {p : Pos} : Viewed (.Name x p) (.name x)
  | bin {l r : Expr} {op : Operator} {p : Pos} : Viewed (.BinOp l op r p) (.bin l op r)
  | un {op : UnaryOp} {x : Expr} {p : Pos} : Viewed (.UnaryOp op x p) (.un op x)
  | bool {op : BoolOp} {es : List Expr} {p : Pos} : Viewed (.BoolOp op es p) (.bool op es)
  | cmp {l : Expr} {ops : List CmpOp} {rs : List Expr} {p : Pos} : Viewed (.Compare l ops rs p) (.cmp l ops rs)
  | ifx {t a b : Expr} {p : Pos} : Viewed (.IfExp t a b p) (.ifx t a b)
  | tup {es : List Expr} {k : Nat} {p : Pos} : Viewed (.Tuple es k p) (.tup es)
  | lst {es : List Expr} {p : Pos} : Viewed (.List es p) (.lst es)
  | slice {value : Expr} {lo hi : Option Expr} {p pos : Pos} : Viewed (.Subscript value (.Slice lo hi none p) pos) (.slice value lo hi)
  | idx {value slice : Expr} {pos : Pos} : Sys.idxSlice slice = true → Viewed (.Subscript value slice pos) (.idx value slice)
  | attr {x attr : Str} {xp pos : Pos} : Viewed (.Attribute (.Name x xp) attr pos) (.attr x attr)
  | told {f : Str} {ps : Arguments} {body : Expr} {sc : Scope} {pos fp cp : Pos} : Viewed (.Call (.Name f fp) [.Lambda ps body sc pos] [] cp) (.told f ps body sc pos)
  | call {f : Str} {args : List Expr} {fp cp : Pos} : Viewed (.Call (.Name f fp) args [] cp) (.call f args)
  | meth {o name : Str} {args : List Expr} {op ap cp : Pos} : ap.endLine = cp.line → args.length < 30 → Viewed (.Call (.Attribute (.Name o op) name ap) args [] cp) (.meth o name args)

theorem view_ok (e : Expr) : view e = .bad ∨ Viewed e (view e) := by
  cases e <;> first | exact .inl rfl | exact .inr .const | exact .inr .name | exact .inr .bin | exact .inr .un | exact .inr .bool | exact .inr .cmp | exact .inr .ifx | exact .inr .tup | exact .inr .lst | skip
  case Subscript value slice p =>
    show viewSub value slice = .bad ∨ Viewed _ (viewSub value slice)
    unfold viewSub
    split <;> first | exact .inl rfl | exact .inr .slice | exact .inr (.idx rfl)
  case Attribute o attr p =>
    cases o <;> first | exact .inl rfl | exact .inr .attr
  case Call f args kws p =>
    show viewCall f args kws p = .bad ∨ Viewed _ (viewCall f args kws p)
    unfold viewCall
    split
    · split
      · split
        · rename_i h
          rw [Bool.and_eq_true] at h
          have h2 := h.2
          rw [len_eq] at h2
          exact .inr (.meth (Nat.eq_of_beq_eq_true h.1) (Nat.le_of_ble_eq_true h2))
        · exact .inl rfl
      · unfold viewNamed
        split <;> first | exact .inr .told | exact .inr .call
      · exact .inl rfl
    · exact .inl rfl

inductive ViewedS : Stmt → ViewS → Prop
  | expr {e : Expr} {p : Pos} : isComp e = false → ViewedS (.Expr e p) (.expr e)
  | ret {e : Option Expr} {p : Pos} : ViewedS (.Return e p) (.ret e)
  | comp {x y z rg : Str} {n : Int} {test : Expr} {sc : Scope} {xp yp zp rp cp ip pos spos : Pos} {kp : Nat} :
      ViewedS (.Assign [.Name x xp] (.ListComp (.Name y yp) [⟨.Name z zp, .Call (.Name rg rp) [.Constant (.int n) kp cp] [] ip, [test], 0⟩] sc pos) spos) (.comp (Nat.beq xp.line pos.line) x y z rg n test sc)
  | name {x : Str} {value : Expr} {xp p : Pos} : isComp value = false → ViewedS (.Assign [.Name x xp] value p) (.name x value)
  | tuple {ts : List Expr} {xs : List Str} {value : Expr} {k : Nat} {tp p : Pos} : names? ts = some xs → isComp value = false → ViewedS (.Assign [.Tuple ts k tp] value p) (.tuple ts xs value)
  | attr {o attr : Str} {value : Expr} {op tp p : Pos} : isComp value = false → ViewedS (.Assign [.Attribute (.Name o op) attr tp] value p) (.attr o attr value)
  | aug {o attr : Str} {value : Expr} {op tp p : Pos} : ViewedS (.AugAssign (.Attribute (.Name o op) attr tp) .Add value p) (.aug o attr value)
  | ifs {t : Expr} {a b : List Stmt} {p : Pos} : ViewedS (.If t a b p) (.ifs t a b)
  | while {t : Expr} {body : List Stmt} {p : Pos} : ViewedS (.While t body [] p) (.while t body)
  | forR {x rg : Str} {n : Int} {body : List Stmt} {xp rp cp ip p : Pos} {kp : Nat} : ViewedS (.For (.Name x xp) (.Call (.Name rg rp) [.Constant (.int n) kp cp] [] ip) body [] p) (.forR x rg n body)
  | forT {ts : List Expr} {xs : List Str} {iter : Expr} {body : List Stmt} {k : Nat} {tp p : Pos} : names? ts = some xs → isSetE iter = false → ViewedS (.For (.Tuple ts k tp) iter body [] p) (.forT ts xs iter body)
  | raise {q : Str} {a b : Expr} {x : Str} {k : Nat} {qp kp cp p : Pos} (hx : small x.cps.toList = true) (ha : isStar a = false) (hb : isStar b = false) : ViewedS (.Raise (some (.Call (.Name q qp) [a, b, .Constant (.str x) k kp] [] cp)) none p) (.raise q a b)

theorem isAdd_of {op : Operator} (h : isAdd op = true) : op = .Add := by cases op <;> first | rfl | cases h
theorem viewS_ok (s : Stmt) : viewS s = .bad ∨ ViewedS s (viewS s) := by
  cases s <;> first | exact .inl rfl | exact .inr .ret | exact .inr .ifs | skip
  case Expr e p =>
    show (match isComp e with | true => ViewS.bad | false => .expr e) = .bad ∨ ViewedS _ (match isComp e with | true => ViewS.bad | false => .expr e)
    cases h : isComp e with
    | true => exact .inl rfl
    | false => exact .inr (.expr h)
  case Assign ts value p =>
    match ts with
    | [] => exact .inl rfl
    | _ :: _ :: _ => exact .inl rfl
    | [t] =>
      show viewAssign t value = .bad ∨ ViewedS _ (viewAssign t value)
      unfold viewAssign
      split
      · split
        · unfold viewComp
          split
          · exact .inr .comp
          · exact .inl rfl
        · split
          · exact .inl rfl
          · rename_i h
            exact .inr (.name h)
      · split
        · rename_i h1 h2
          exact .inr (.tuple h2 h1)
        · exact .inl rfl
      · split
        · exact .inl rfl
        · rename_i h
          exact .inr (.attr h)
      · exact .inl rfl
  case AugAssign t op value p =>
    cases t <;> first | exact .inl rfl | skip
    case Attribute o attr tp =>
      cases o <;> first | exact .inl rfl | skip
      cases op <;> first | exact .inl rfl | exact .inr .aug
  case While t body orelse p =>
    cases orelse with
    | nil => exact .inr .while
    | cons _ _ => exact .inl rfl
  case For t iter body orelse p =>
    cases orelse with
    | cons _ _ => exact .inl rfl
    | nil =>
      show viewFor t iter body = .bad ∨ ViewedS _ (viewFor t iter body)
      unfold viewFor
      split
      · split
        · exact .inr .forR
        · exact .inl rfl
      · split
        · rename_i h1 h2
          exact .inr (.forT h2 h1)
        · exact .inl rfl
      · exact .inl rfl
  case Raise e c p =>
    show viewRaise e c = .bad ∨ ViewedS _ (viewRaise e c)
    unfold viewRaise
    split
    · split
      · exact .inr (.raise (by assumption) (by assumption) (by assumption))
      · exact .inl rfl
    · exact .inl rfl
end Mine
end

section
open PySem PySem.W PyProof.Rows PySem.Calls
set_option autoImplicit false
namespace Mine
namespace Sys
variable {Y : Sys}
section
variable {n : Nat} {r : Rec} {cx : Cx} {fr : FI} {st st' st₁ : St} {ρ : List Addr} {s : Shared} {E : Value → Shared → Prop}

theorem ev1_ok (C : Y.Con n r) (S : Y.SndA n r) : Y.SE (n + 1) (ev1 r) := by
  intro cx fr e st res st' ρ s Q E h G R q
  have S₀ := S.self
  have Gd := G.down
  unfold ev1 at h
  rcases view_ok e with hb | hv
  · rw [hb] at h; cases h
  · generalize view e = v at h hv
    cases hv with
    | const => exact const_ok h R q
    | name =>
      replace h : evNm fr _ st = some (res, st') := h
      unfold evNm at h
      split at h
      · rename_i v h1
        cases h
        exact name_go Y.D G R h1 fun V rv => q _ _ _ (Ext.refl _) rv R
      · cases h
    | bin => exact bin_ok S₀ h Gd R q
    | un => exact un_ok S₀ h Gd R q
    | bool =>
      obtain ⟨v, h1, rfl⟩ := okV_some h
      exact boolV_ok S₀ h1 Gd R q
    | cmp => exact cmp_ok S₀ h Gd R q
    | ifx => exact if_ok S₀ h Gd R q
    | tup => exact tup_ok S₀ h Gd R q
    | lst => exact lst_ok S₀ h Gd R q
    | slice => exact slice_ok S₀ h Gd R q
    | idx hs => exact idx_ok S₀ hs h Gd R q
    | attr => exact attr_ok h Gd R q
    | told => exact C.told n r cx fr st st' ρ s _ _ _ _ _ _ _ res Q E S h G R q
    | call => exact call_ok C S₀ h G R q
    | meth hp hl => exact meth_ok S₀ hp hl h G R q

theorem plain_ok (S : Y.Snd n r) {e : Expr} {b : Bool} {Q : Bool → Shared → Prop} (h : tsPlain r fr e st = some (b, st')) (G : Y.Gd cx fr n ρ) (R : Y.Rp cx st ρ s) (q : Y.AnsT cx b st' ρ Q)
    (he : PySem.isTrue e cx.env (eval e cx.env) = (do let v ← eval e cx.env; standAt e.pos; holding [v] (truthy v))) : Y.wp cx.A (PySem.isTrue e cx.env (eval e cx.env)) Q E s := by
  unfold tsPlain at h
  split at h
  · rename_i v st₁ h1
    split at h
    · rename_i c h2
      cases h
      exact isTrue_plain (S.v h1 G R fun ρ₁ V s₁ x₁ r₁ R₁ _ => truth_go h2 r₁ (q _ _ x₁ R₁)) he
    · cases h
  · cases h
theorem ts1_ok (S : Y.SndA n r) : Y.ST (n + 1) (tst1 r) := by
  intro cx fr e st b st' ρ s Q E h G R q
  have S₀ := S.self
  have Gd := G.down
  unfold tst1 at h
  rcases view_ok e with hb | hv
  · rw [hb] at h; cases h
  · generalize view e = v at h hv
    cases hv with
    | name => exact plain_ok S₀ h Gd R q rfl
    | un => exact tnot_ok S₀ h Gd R q
    | bool => exact boolT_ok S₀ h Gd R q
    | cmp => exact tcmp_ok S₀ h Gd R q
    | call => exact plain_ok S₀ h Gd R q rfl
    | meth _ _ => exact plain_ok S₀ h Gd R q rfl
    | _ => cases h

theorem ex1_ok (C : Y.Con n r) (S : Y.SndA n r) : Y.SX1 (n + 1) (ex1 r) := by
  intro cx fr x st f st' ρ s Q E h G R q
  have S₀ := S.self
  have Gd := G.down
  unfold ex1 at h
  rcases viewS_ok x with hb | hv
  · rw [hb] at h; cases h
  · generalize viewS x = v at h hv
    cases hv with
    | expr hc => exact sExpr_ok S₀ hc h Gd R q
    | ret => exact sRet_ok S₀ h Gd R q
    | comp => exact sComp_ok S h Gd R q
    | name hc => exact sName_ok S₀ hc h Gd R q
    | tuple hx hc => exact sTuple_ok S₀ hx hc h Gd R q
    | attr hc => exact sAttr_ok S₀ hc h Gd R q
    | aug => exact sAug_ok S₀ h Gd R q
    | ifs => exact sIf_ok S₀ h Gd R q
    | «while» => exact sWhile_ok S₀ h Gd R q
    | forR => exact sForR_ok S h Gd R q
    | forT hx hs => exact sForT_ok S hx hs h Gd R q
    | raise hx ha hb => exact C.raise n r cx fr st st' ρ s _ _ _ _ _ _ _ _ _ f Q E hx ha hb S₀ h G R q

/-- one step of the interpreter is sound -/
theorem step_ok (C : ∀ H, (∀ p ∈ Y.ns.hid, p ∈ H) → (Y.at' H).Con n r) (S : Y.SndA n r) : Y.SndA (n + 1) (step r) := fun H hH =>
  have SH : (Y.at' H).SndA n r := fun H' hH' => S H' fun p hp => hH' p (hH p hp)
  ⟨ev1_ok (C H hH) SH, ts1_ok SH, exs_ok (ex1_ok (C H hH) SH)⟩
theorem bot_ok (orc : Nat → Int → Option Int) (pr : Bool) : Y.SndA 0 (bot orc pr) := fun H _ =>
  ⟨fun _ _ _ _ _ _ _ _ _ _ h => (by cases h), fun _ _ _ _ _ _ _ _ _ _ h => (by cases h), fun _ _ _ _ _ _ _ _ _ _ h => (by cases h)⟩
end
end Sys
end Mine
end

section
open PySem PySem.W PyProof.Rows PySem.Calls
set_option autoImplicit false
namespace Mine
noncomputable def fn165 : Fn := match topFn 22 with
  | some F => F
  | none => ⟨"", [], [], [], none⟩
/-- the value drawn as the c-th -/
noncomputable def draw (nums : List Int) (sd : Int) (c : Nat) (m : Int) : Int := if c ≤ nums.length then (nums.getD (c - 1) 0).fmod m else (4 * (c : Int) + ((c : Int) * (c : Int)).fdiv 3 + sd).fmod m
theorem bits_small : ∀ c : Nat, c < 1002 → Builtin.Int.intBits (c : Int) ≤ 64 := by decide +kernel
theorem ints_nth : ∀ {vs : List Value} {ks : List Int} {i : Nat}, IntsAre vs ks → i < ks.length → ∃ t, vs[i]? = some (.int (ks.getD i 0) t)
  | _, _, i, .nil, h => absurd h (Nat.not_lt_zero _)
  | _, _, 0, .cons n t _, _ => ⟨t, rfl⟩
  | _, _, i + 1, .cons n t r, h => by
    obtain ⟨t, e⟩ := ints_nth r (Nat.lt_of_succ_lt_succ h)
    exact ⟨t, e⟩
namespace Sys
variable {Y : Sys}
section
variable {n : Nat} {cx : Cx} {fr : FI} {st st' st₁ : St} {ρ : List Addr} {s : Shared} {E : Value → Shared → Prop}

/-- a list's item at a written place -/
theorem item_go {A : Around} {o : Str} {op kp pos : Pos} {kk : Nat} {i : Nat} {ov : V} {its : Array Value} {x : Value} {Q : Value → Shared → Prop} (G : Y.Gd cx fr n ρ) (R : Y.Rp cx st ρ s) (h : evName fr st o = some ov)
    (hl : ∀ V, VR ρ ov V → ∃ la, V = .ref la ∧ s.heap.IsList la its) (hx : its[i]? = some x) (hi : (i : Int) < 2 ^ 63) (q : ∀ tk, Q x { s with toks := tk }) : Y.wp A (eval (.Subscript (.Name o op) (.Constant (.int (i : Int)) kk kp) pos) cx.env) Q E s := by
  refine Subscript_ (name_go Y.D G R h fun V rv => wpAny_Constant_int ?_)
  obtain ⟨la, rfl, l1⟩ := hl V rv
  refine tail_any (T := "list") (ops := [.ref la, .int (i : Int) s.toks]) l1.typeIs F.slot_list_getitem.lookup ?_ rfl
  exact wpAny_getItem_list l1 (by omega) hi (by rw [Int.toNat_natCast]; exact hx) (q _)

/-- a pen: the list of draws, how many were drawn, the sum -/
noncomputable def PenIs (pl : Addr) (sd : Int) (c : Nat) (o : Obj) : Prop := o.cls = .type "list" ∧ ∃ t u n, o.data = .seq #[.ref pl, .int (c : Int) t, .int sd u] n
structure PenOk (Y : Sys) (nums : List Int) (sd : Int) : Prop where
  pen : ∃ pl, (∀ c o, Y.ns.pen c o ↔ PenIs pl sd c o) ∧ ∃ np pvs, (pl, PySem.W.listOf pvs.toArray np) ∈ Y.ns.hid ∧ IntsAre pvs nums
  few : nums.length ≤ 100

noncomputable def penLoc (k : Nat) (m : Int) : Loc := [("pen", .loc k), ("many", .int m)]
theorem next_ok {nums : List Int} {sd : Int} {orc : Nat → Int → Option Int} (hF : FnK Y.K 165 fn165) (P : Y.PenOk nums sd) (ho : ∀ c m v, orc c m = some v → v = draw nums sd c m) : Y.NextOk orc := by
  obtain ⟨⟨pl, hpen, np, pvs, hpl, hints⟩, few⟩ := P
  intro cx fr st ρ s k ka c m t Q E m2 m8 hc hk hka G hfn R q
  have below0 : (0 : Nat) = 0 := rfl
  refine wpAny_call (fn_enter (n := 0) (vs := [.loc k, .int m]) (bs := penLoc k m) hF (tab_none rfl) (Gd.le G (by omega)) (by have := G.dep; omega) (by have := G.uni; omega) hfn R (by kernel_rfl) (.cons (.loc hka) (.cons (.int _ _) .nil)) fun env' L' ρ₂ s₂ ext W G₂ below R₂ => ?_)
  rw [show newCells (penLoc k m) (cellNames fn165.names) = [] from by kernel_rfl, app_eq, List.append_nil, show bindLoc fn165.names (penLoc k m) = (penLoc k m) from by kernel_rfl] at R₂
  have hka₂ := ext.at hka
  have penV : ∀ led, evName ⟨fn165.qual, fn165.names, (number (cellNames fn165.names) (len st.led)).reverse, fn165.tab, true⟩ ⟨led, penLoc k m⟩ ("pen" : Str) = some (.loc k) := fun led => by kernel_rfl
  have manyV : ∀ led, evName ⟨fn165.qual, fn165.names, (number (cellNames fn165.names) (len st.led)).reverse, fn165.tab, true⟩ ⟨led, penLoc k m⟩ ("many" : Str) = some (.int m) := fun led => by kernel_rfl
  have lenV : ∀ led, evName ⟨fn165.qual, fn165.names, (number (cellNames fn165.names) (len st.led)).reverse, fn165.tab, true⟩ ⟨led, penLoc k m⟩ ("len" : Str) = some (.bi .len) := fun led => by kernel_rfl
  -- the pen, wherever it stands with c drawn
  have penAt : ∀ {led : List O} {c : Nat} {s : Shared}, led[k]? = some (.pen c) → Y.Rp (cx.enter st.loc env' L') ⟨led, penLoc k m⟩ ρ₂ s → ∃ t u, ∀ V, VR ρ₂ (.loc k) V → V = .ref ka ∧ s.heap.IsList ka #[.ref pl, .int (c : Int) t, .int sd u] := by
    intro led c s hk R
    obtain ⟨objs, fo, hid, mm, X⟩ := R
    obtain ⟨o, _, ok, ho⟩ := X.at hk hka₂
    cases ok with
    | pen hp =>
    obtain ⟨hcls, t, u, nn, hd⟩ := (hpen c o).mp hp
    refine ⟨t, u, fun V rv => ?_⟩
    cases rv with | loc e =>
    rw [hka₂] at e
    cases e
    exact ⟨rfl, o, ho, hcls, nn, hd⟩
  have hpl' : ∀ {led : List O} {s : Shared}, Y.Rp (cx.enter st.loc env' L') ⟨led, penLoc k m⟩ ρ₂ s → s.heap.IsList pl pvs.toArray := by
    intro led s R
    obtain ⟨objs, fo, hid, mm, X⟩ := R
    exact ⟨_, (X.N _ (X.hidMem (X.old _ hpl))).1, rfl, np, rfl⟩
  -- pen[1] = pen[1] + 1
  refine wpAny_execs_cons ?_
  obtain ⟨t₁, u₁, at₁⟩ := penAt hk R₂
  refine wpAny_Assign_Subscript (wpAny_BinOp (item_go (i := 1) G₂ R₂ (penV _) (fun V rv => ⟨ka, at₁ V rv⟩) rfl (by decide) fun tk₁ => wpAny_Constant_int (PyProof.Rows.add_int ?_)))
  refine name_go Y.D G₂ (R₂.tok _) (penV _) fun V rv => wpAny_Constant_int ?_
  obtain ⟨rfl, l1⟩ := at₁ V rv
  refine wpAny_setItem_list l1 (by decide) (by decide) (by show (1 : Int) < ((3 : Nat) : Int); decide) fun h₃ hl₃ hs₃ => ?_
  obtain ⟨o₃, ho₃, hc₃, n₃, hd₃⟩ := hl₃
  have R₃ : ∀ tk, Y.Rp (cx.enter st.loc env' L') ⟨st.led.set k (.pen (c + 1)), penLoc k m⟩ ρ₂ { s₂ with heap := h₃, toks := tk } := by
    intro tk
    obtain ⟨objs, fo, hid, mm, X⟩ := id R₂
    obtain ⟨o₂, hi₂, _, ho₂⟩ := X.at hk hka₂
    have z := X.N _ (X.mem hka₂ hi₂)
    refine ⟨_, _, _, _, X.upd (tk := tk) hka₂ (X.F.change hs₃ z.2.1 z.2.2) (news_updL X.N X.nd (X.mem hka₂ hi₂) hs₃ ho₃) (.pen ((hpen _ _).mpr ⟨hc₃, tk₁ + 1, u₁, n₃, by rw [hd₃, show ((c + 1 : Nat) : Int) = (c : Int) + 1 by omega]; rfl⟩))⟩
  have hk₃ : (st.led.set k (.pen (c + 1)))[k]? = some (.pen (c + 1)) := by
    have hlt : k < st.led.length := (List.getElem?_eq_some_iff.mp hk).1
    rw [List.getElem?_set_self hlt]
  have hρ : ρ₂ = ρ := by
    obtain ⟨τ, e⟩ := ext
    obtain ⟨_, _, _, _, X⟩ := id R
    obtain ⟨_, _, _, _, X₂⟩ := id R₂
    have h1 := X.count
    have h2 : st.led.length = ρ₂.length := X₂.count
    rw [e, List.length_append] at h2
    have : τ = [] := List.length_eq_zero_iff.mp (by omega)
    rw [e, this, List.append_nil]
  have fin : ∀ v u s', v = draw nums sd (c + 1) m → Y.Rp (cx.enter st.loc env' L') ⟨st.led.set k (.pen (c + 1)), penLoc k m⟩ ρ₂ s' → Q (.int v u) s' := fun v u s' hv R' => by
    obtain ⟨_, _, _, _, X⟩ := R'
    have hb : 0 ≤ v ∧ v < m := by
      rw [hv]
      unfold draw
      split
      · exact ⟨Int.fmod_nonneg_of_pos _ (by omega), Int.fmod_lt_of_pos _ (by omega)⟩
      · exact ⟨Int.fmod_nonneg_of_pos _ (by omega), Int.fmod_lt_of_pos _ (by omega)⟩
    refine q v u s' hb.1 hb.2 (fun w hw => ?_) ?_
    · rw [ho _ _ _ hw]; exact hv
    · rw [← hρ]; exact X.ret below
  have hlen : pvs.toArray.size = nums.length := by rw [List.size_toArray, hints.length]
  have m0 : m ≠ 0 := by omega
  -- if pen[1] <= len(pen[0])
  refine wpAny_execs_cons ?_
  obtain ⟨t₄, u₄, at₄⟩ := penAt hk₃ (R₃ s₂.toks)
  have e1 : ((c + 1 : Nat) : Int) = (c : Int) + 1 := by omega
  have item0 : ∀ {A : Around} {op kp pos : Pos} {kk : Nat} {tk : Nat} {Q : Value → Shared → Prop} {E : Value → Shared → Prop}, (∀ tk', Q (.ref pl) { s₂ with heap := h₃, toks := tk' }) → Y.wp A (eval (.Subscript (.Name "pen" op) (.Constant (.int ((0 : Nat) : Int)) kk kp) pos) env') Q E { s₂ with heap := h₃, toks := tk } :=
    fun {A op kp pos kk tk Q E} h => item_go (i := 0) G₂ (R₃ tk) (penV _) (fun V rv => ⟨ka, at₄ V rv⟩) rfl (by decide) h
  have item1 : ∀ {A : Around} {op kp pos : Pos} {kk : Nat} {tk : Nat} {Q : Value → Shared → Prop} {E : Value → Shared → Prop}, (∀ tk', Q (.int ((c + 1 : Nat) : Int) t₄) { s₂ with heap := h₃, toks := tk' }) → Y.wp A (eval (.Subscript (.Name "pen" op) (.Constant (.int ((1 : Nat) : Int)) kk kp) pos) env') Q E { s₂ with heap := h₃, toks := tk } :=
    fun {A op kp pos kk tk Q E} h => item_go (i := 1) G₂ (R₃ tk) (penV _) (fun V rv => ⟨ka, at₄ V rv⟩) rfl (by decide) h
  have item2 : ∀ {A : Around} {op kp pos : Pos} {kk : Nat} {tk : Nat} {Q : Value → Shared → Prop} {E : Value → Shared → Prop}, (∀ tk', Q (.int sd u₄) { s₂ with heap := h₃, toks := tk' }) → Y.wp A (eval (.Subscript (.Name "pen" op) (.Constant (.int ((2 : Nat) : Int)) kk kp) pos) env') Q E { s₂ with heap := h₃, toks := tk } :=
    fun {A op kp pos kk tk Q E} h => item_go (i := 2) G₂ (R₃ tk) (penV _) (fun V rv => ⟨ka, at₄ V rv⟩) rfl (by decide) h
  refine wpAny_If (wpAny_isTrue_Compare1 (item1 fun tk => Call_ (name_go Y.D G₂ (R₃ tk) (lenV _) fun V rv => ?_)))
  cases rv
  refine callWith_method1 (id := "len") (first := []) (spliced_more (item0 fun tk' => spliced_none ?_))
  have hl₃ := hpl' (R₃ tk')
  refine PyProof.Rows.len_list hl₃ (by rw [hlen]; omega) (PyProof.Rows.le_int (wpAny_truthy_bool ?_))
  have manyAt : ∀ {A : Around} {p : Pos} {tk : Nat} {Q : Value → Shared → Prop} {E : Value → Shared → Prop}, (∀ t', Q (.int m t') { s₂ with heap := h₃, toks := tk }) → Y.wp A (eval (.Name "many" p) env') Q E { s₂ with heap := h₃, toks := tk } :=
    fun {A p tk Q E} h => name_go Y.D G₂ (R₃ tk) (manyV _) fun V rv => by cases rv; exact h _
  by_cases hlt : ((c + 1 : Nat) : Int) ≤ (pvs.toArray.size : Int)
  · rw [if_pos (decide_eq_true hlt)]
    rw [hlen] at hlt
    refine wpAny_execs_cons (wpAny_Return_some (wpAny_BinOp (Subscript_ (item0 fun tk₅ => wpAny_BinOp (item1 fun tk₆ => wpAny_Constant_int (PyProof.Rows.sub_int ?_))))))
    have hl₅ := hpl' (R₃ (tk₆ + 1 + 1))
    obtain ⟨t₇, e₇⟩ := ints_nth (i := c) hints (by omega)
    refine tail_any (T := "list") (ops := [.ref pl, .int (((c + 1 : Nat) : Int) - 1) (tk₆ + 1)]) hl₅.typeIs F.slot_list_getitem.lookup ?_ rfl
    refine wpAny_getItem_list hl₅ (by omega) (by omega) (x := .int (nums.getD c 0) t₇) ?_ ?_
    · rw [show (((c + 1 : Nat) : Int) - 1).toNat = c by omega, List.getElem?_toArray]; exact e₇
    · refine manyAt fun t' => PyProof.Rows.mod_int m0 (fin _ _ _ ?_ (R₃ _))
      unfold draw
      rw [if_pos (by omega)]
      rfl
  · rw [if_neg (by rw [decide_eq_true_eq]; exact hlt)]
    rw [hlen] at hlt
    refine wpAny_execs_nil ?_
    refine wpAny_execs_cons (wpAny_Return_some (wpAny_BinOp (wpAny_BinOp (wpAny_BinOp (wpAny_BinOp (wpAny_Constant_int (item1 fun tk₅ => PyProof.Rows.mul_int ?_ (IntMulOk.of_left (by decide +kernel)))))))))
    refine wpAny_BinOp (wpAny_BinOp (item1 fun tk₆ => item1 fun tk₇ => PyProof.Rows.mul_int ?_ (IntMulOk.of_left (bits_small (c + 1) (by omega)))))
    refine wpAny_Constant_int (AutoIntOps.floordiv_1 (by decide) (by rw [PyProof.noPylong_small (by decide)]; decide) ?_)
    refine PyProof.Rows.add_int (item2 fun tk₈ => PyProof.Rows.add_int (manyAt fun t' => PyProof.Rows.mod_int m0 (fin _ _ _ ?_ (R₃ _))))
    unfold draw
    rw [if_neg (by omega)]
end
end Sys
end Mine
end

section
open PySem PySem.W PyProof.Rows PySem.Calls
set_option autoImplicit false
namespace Mine
noncomputable def fn53 : Fn := match topFn 7 with
  | some F => F
  | none => ⟨"", [], [], [], none⟩
noncomputable def sc53 : Scope := match fn53.body with
  | [.Return (some (.ListComp _ _ sc _)) _] => sc
  | _ => { kind := .function, names := [], isGenerator := false, isCoroutine := false }
noncomputable def nm53 : List (Str × NameKind) := relabelN fn53.names sc53.names
theorem pairOf_some {led : List O} {v : V} {a : Int} {b : List UInt8} (h : pairOf led v = some (a, b)) : ∃ k, v = .loc k ∧ led[k]? = some (.tuple [.int a, .bytes b]) ∧ b.length ≤ 1000 := by
  unfold pairOf at h
  split at h
  · rename_i e
    split at h
    · rename_i hz
      cases h
      obtain ⟨k, rfl, e2⟩ := Sys.items_some e
      exact ⟨k, rfl, e2, small_le hz⟩
    · cases h
  · cases h
theorem covered_cons (old : List O) (x : V) (xs : List V) (now : List O) (acc : List V) : coveredGo old (x :: xs) now acc = match pairOf old x with
    | some (a, b) => coveredGo old xs (app now [.tuple [.int a, .int (a + Int.ofNat (len b))]]) (app acc [.loc (len now)])
    | none => none := by
  rfl
namespace Sys
variable {Y : Sys}
section
variable {n : Nat} {cx : Cx} {fr : FI} {st st' st₁ : St} {ρ : List Addr} {s : Shared} {E : Value → Shared → Prop}

theorem cov_loop {cells : List (Str × Nat)} {q : Str} {xp yp tp : Pos} {k' : Nat} {elt iter : Expr} {pos : Pos} {xs : List V} {old led' : List O} {v : V} {l : Loc} {c kk : Nat} {la I D : Addr} {o : Obj} {R' : Result → Shared → Prop}
    (helt : ∀ {ρ' : List Addr} {now : List O} {l : Loc} {a : Int} {b : List UInt8} {s' : Shared} {H : Hid} {Q : Value → Shared → Prop} {E : Value → Shared → Prop}, Ext ρ ρ' → lk l "start" = some (.int a) → lk l "octets" = some (.bytes b) → b.length ≤ 1000000 → (Y.at' H).Rp cx ⟨now, l⟩ ρ' s' →
      (∀ ρ'' V s'', Ext ρ' ρ'' → VR ρ'' (.loc (len now)) V → (Y.at' H).Rp cx ⟨app now [.tuple [.int a, .int (a + Int.ofNat (len b))]], l⟩ ρ'' s'' → Q V s'') → Y.wp cx.A (eval elt cx.env) Q E s')
    (G : Y.Gd cx ⟨q, nm53, cells, none, false⟩ n ρ) (hI : ∀ p ∈ Y.ns.hid, p.1 ≠ I) (hD : ∀ p ∈ Y.ns.hid, p.1 ≠ D) (hID : I ≠ D) (hN : xs.length ≤ 1000)
    (hla : ρ[kk]? = some la) (hk : old[kk]? = some (.list xs)) (ho : itL la 0 o) (h : coveredGo old xs old [] = some (v, led'))
    (R : (Y.at' ((I, o) :: (D, PySem.W.listOf ([] : List Value).toArray c) :: Y.ns.hid)).Rp cx ⟨old, l⟩ ρ s)
    (q' : ∀ ρ' s' l Vs c acc now, Ext ρ ρ' → A2 (VR ρ') acc Vs → v = .loc (len now) → led' = app now [.list acc] → (Y.at' ((D, PySem.W.listOf Vs.toArray c) :: Y.ns.hid)).Rp cx ⟨now, l⟩ ρ' s' → R' (.ok .next) s') (sc : Scope) :
    codeAny (model Y.prog Y.w) cx.A (.compLoop (.ListComp elt [⟨.Tuple [.Name "start" xp, .Name "octets" yp] k' tp, iter, [], 0⟩] sc pos) 0 (.ref I) (.ref D) cx.env) R' s := by
  refine PyProof.Rows.LCp.codeAny_compLoop_pair (fun k s' => ∃ i now acc Vs c l o ρ', coveredGo old (xs.drop i) now acc = some (v, led') ∧ Ext ρ ρ' ∧ (∃ τ, now = old ++ τ) ∧ i + k = xs.length ∧ acc.length ≤ i ∧ A2 (VR ρ') acc Vs ∧ itL la i o ∧
    (Y.at' ((I, o) :: (D, PySem.W.listOf Vs.toArray c) :: Y.ns.hid)).Rp cx ⟨now, l⟩ ρ' s') ?_ xs.length ⟨0, old, [], [], c, l, o, ρ, h, Ext.refl _, ⟨[], (List.append_nil _).symm⟩, Nat.zero_add _, Nat.le_refl _, .nil, ho, R⟩
  clear R h ho
  rintro k s' ⟨i, now, acc, Vs, c, l, o, ρ', h, x1, ⟨τ, hnow⟩, hik, hal, rA, ho, objs, fo, hid, mm, X⟩
  have hm : (I, o) ∈ hid := X.old _ List.mem_cons_self
  have hit : s'.heap.IsListIter I la i := ⟨o, (X.N _ (X.hidMem hm)).1, ho.1, ho.2⟩
  have offI : ∀ p ∈ (D, PySem.W.listOf Vs.toArray c) :: Y.ns.hid, p.1 ≠ I := fun p hp => by
    rcases List.mem_cons.mp hp with rfl | hp
    · exact Ne.symm hID
    · exact hI p hp
  have grow : ∀ {j : Nat} {z : O}, old[j]? = some z → now[j]? = some z := fun e => by rw [hnow]; exact getElem?_grow e
  obtain ⟨Ws, cw, rw', _, _, l1⟩ := X.list (grow hk) (x1.at hla)
  by_cases hlt : i < xs.length
  · obtain ⟨k, rfl⟩ : ∃ j, k = j + 1 := ⟨k - 1, by omega⟩
    rw [List.drop_eq_getElem_cons hlt, covered_cons] at h
    split at h
    · rename_i a b h1
      obtain ⟨t, et, h2, hbl⟩ := pairOf_some h1
      obtain ⟨V, eV, rV⟩ := a2_nth rw' (List.getElem?_eq_getElem hlt)
      rw [et] at rV
      cases rV with
      | @loc _ ta hta =>
      refine wpAny_pyNext_list_item hit l1 eV fun h' hit' hs => ?_
      obtain ⟨o', ho', oc, od⟩ := id hit'
      have X' := RepX.hidUpd (ns := ⟨(D, PySem.W.listOf Vs.toArray c) :: Y.ns.hid, Y.ns.pen⟩) (tk := s'.toks) X hs ho' ho.no offI
      refine wpAny_letOwnedTupleGo_listiter hit' ?_
      obtain ⟨Zs, r2, _, t2⟩ := X'.tuple (grow h2) hta
      have hx : names? [Expr.Name "start" xp, Expr.Name "octets" yp] = some [("start" : Str), ("octets" : Str)] := rfl
      obtain ⟨n1, n2, _⟩ := names_some (cx := cx) hx
      have hst : storeAll ⟨q, nm53, cells, none, false⟩ ["start", "octets"] [.int a, .bytes b] ⟨now, l⟩ = some ⟨now, put "octets" (.bytes b) (put "start" (.int a) l)⟩ := by kernel_rfl
      refine unpackN_ X'.F X'.N t2 G.hand (by rw [r2.toArray_size, n1]; rfl) n2 fun h'' F' N' => ?_
      refine each_go (Y := Y.at' ((I, o') :: (D, PySem.W.listOf Vs.toArray c) :: Y.ns.hid)) hx (G.ext x1) ⟨_, _, _, _, X'.re (tk := s'.toks) F' N'⟩ hst (by rw [List.toList_toArray]; exact r2) fun s₂ R₂ => ?_
      have l1' : lk (put "octets" (.bytes b) (put "start" (.int a) l)) "start" = some (.int a) := by
        rw [lk_put, if_neg (by decide), lk_put, if_pos rfl]
      have l2' : lk (put "octets" (.bytes b) (put "start" (.int a) l)) "octets" = some (.bytes b) := by
        rw [lk_put, if_pos rfl]
      refine helt x1 l1' l2' (by omega) R₂ fun ρ₃ V₃ s₃ x₃ r₃ R₃ => ?_
      obtain ⟨objs₃, fo₃, hid₃, m₃, X₃⟩ := R₃
      have X₄ : RepX ⟨(D, PySem.W.listOf Vs.toArray c) :: (I, o') :: Y.ns.hid, Y.ns.pen⟩ Y.S₀ Y.B cx _ ρ₃ s₃ objs₃ fo₃ hid₃ m₃ := X₃.par rfl (swap2 X₃.old)
      have hDm := X₄.old _ List.mem_cons_self
      have hVl : Vs.toArray.size = acc.length := by rw [List.size_toArray, rA.length]
      refine append_at (X₄.N _ (X₄.hidMem hDm)).1 (fun h₅ hs₅ hD₅ => ?_) (by rw [hVl, sizeLine_eq]; omega)
      have X₅ := RepX.hidUpd (ns := ⟨(I, o') :: Y.ns.hid, Y.ns.pen⟩) (tk := s₃.toks) X₄ hs₅ hD₅ (list_no _ _) (fun p hp => by
        rcases List.mem_cons.mp hp with rfl | hp
        · exact hID
        · exact hD p hp)
      rw [List.push_toArray] at X₅
      refine ⟨k, Nat.lt_succ_self k, i + 1, _, _, Vs ++ [V₃], c + 1, _, o', ρ₃, h, x1.trans x₃, ⟨τ ++ [.tuple [.int a, .int (a + Int.ofNat (len b))]], by rw [app_eq, hnow, List.append_assoc]⟩, by omega, ?_, ?_, ⟨oc, od⟩, _, _, _, _, X₅.par rfl (swap2 X₅.old)⟩
      · rw [app_eq, List.length_append]; exact Nat.succ_le_succ hal
      · rw [app_eq]; exact (vrs_ext rA x₃).append (.cons r₃ .nil)
    · cases h
  · have hk0 : k = 0 := by omega
    subst hk0
    rw [List.drop_eq_nil_of_le (by omega)] at h
    cases h
    have e1 : Ws.toArray[i]? = none := by rw [List.getElem?_toArray]; exact rw'.left_none (List.getElem?_eq_none (by omega))
    refine wpAny_pyNext_list_end G.hand hit l1 e1 fun h' hs => ?_
    exact q' _ _ _ _ _ _ _ x1 rA rfl rfl (RepX.unhide (ns := ⟨(D, PySem.W.listOf Vs.toArray c) :: Y.ns.hid, Y.ns.pen⟩) (tk := s'.toks) X hs ho.no offI)
end
end Sys
end Mine
end

section
open PySem PySem.W PyProof.Rows PySem.Calls
set_option autoImplicit false
namespace Mine
noncomputable def covLoc (k : Nat) : Loc := [("pieces", .loc k)]
namespace Sys
variable {Y : Sys}
section
variable {n : Nat} {cx : Cx} {fr : FI} {st st' st₁ : St} {ρ : List Addr} {s : Shared} {E : Value → Shared → Prop}

theorem cov_ok (hF : FnK Y.K 53 fn53) : Y.CovOk := by
  intro cx fr st ρ s k ka xs v led Q E hk hz h hka G hfn R q
  refine wpAny_call (fn_enter (n := 0) (vs := [.loc k]) (bs := covLoc k) hF (tab_none rfl) (Gd.le G (by omega)) (by have := G.dep; omega) (by have := G.uni; omega) hfn R (by kernel_rfl) (.cons (.loc hka) .nil) fun env' L' ρ₂ s₂ ext W G₂ below R₂ => ?_)
  rw [show newCells (covLoc k) (cellNames fn53.names) = [] from by kernel_rfl, app_eq, List.append_nil, show bindLoc fn53.names (covLoc k) = covLoc k from by kernel_rfl] at R₂
  have hka₂ := ext.at hka
  refine wpAny_execs_cons (wpAny_Return_some ?_)
  show wpAny _ _ (eval (.ListComp _ [⟨.Tuple [.Name "start" _, .Name "octets" _] _ _, .Name "pieces" _, [], 0⟩] sc53 _) env') _ _ _
  rw [eval_ListComp]
  refine wpAny_comprehension_free (use := none) rfl (fun _ => rfl) (closureFor_none (by decide +kernel)) rfl (by decide +kernel) ?_
  have hname : evName ⟨fn53.qual, fn53.names, (number (cellNames fn53.names) (len st.led)).reverse, fn53.tab, true⟩ ⟨st.led, covLoc k⟩ "pieces" = some (.loc k) := by kernel_rfl
  refine name_go Y.D G₂ R₂ hname fun V rV => ?_
  cases rV with
  | @loc _ la hla =>
  obtain ⟨objs, fo, hid, m, X⟩ := R₂
  obtain ⟨Vs, c, r1, _, _, l1⟩ := X.list hk hla
  refine wpAny_pyIter_list l1 ?_
  have X₁ := X.hide (tk := s₂.toks) (X.F.push { cls := .type "list_iterator", data := .fields #[.ref la, .int 0 0] }) (X.N.push X.F _) X.lt
  refine newList_N X₁.F X₁.N (fun h₂ F₂ N₂ => ?_) (by rw [sizeLine_eq]; simp)
  have X₂ := X₁.hide (tk := s₂.toks) F₂ N₂ X₁.lt
  have hsz₁ : (s₂.heap.push { cls := .type "list_iterator", data := .fields #[.ref la, .int 0 0] }).objs.size = s₂.heap.objs.size + 1 := Heap.size_push ..
  refine wpAny_newFunctionEnv (by decide +kernel) (by intro y hy; cases hy) (fun h₃ hns hsb => ?_) rfl
  have keep : ∀ b o, h₂.get? b = some o → h₃.get? b = some o := fun b o e => hsb.extBut b o (Nat.ne_of_lt (Heap.lt_size e)) (Heap.get?_push_of_some _ e)
  obtain ⟨oL, X₃⟩ := X₂.enter (env := compEnvC sc53 [] h₂.objs.size env') (tk := s₂.toks + ([] : List (Str × Value)).length) (l := []) hns keep (fun x v e => by rw [lk_nil] at e; cases e)
  have offI : ∀ p ∈ Y.ns.hid, p.1 ≠ s₂.heap.objs.size := fun p hp => Nat.ne_of_lt (X.lt p (X.hidMem (X.old p hp)))
  have offD : ∀ p ∈ Y.ns.hid, p.1 ≠ (s₂.heap.push { cls := .type "list_iterator", data := .fields #[.ref la, .int 0 0] }).objs.size := fun p hp => by
    rw [hsz₁]; exact Nat.ne_of_lt (Nat.lt_succ_of_lt (X.lt p (X.hidMem (X.old p hp))))
  have X₄ := X₃.around (cx' := ⟨cx.A.deeper env', compEnvC sc53 [] h₂.objs.size env', h₂.objs.size, L' :: cx.L :: cx.fas, covLoc k :: st.loc :: cx.stk, env' :: cx.env :: cx.outer⟩) rfl rfl rfl
  have G₄ : Y.Gd ⟨cx.A.deeper env', compEnvC sc53 [] h₂.objs.size env', h₂.objs.size, L' :: cx.L :: cx.fas, covLoc k :: st.loc :: cx.stk, env' :: cx.env :: cx.outer⟩ ⟨fn53.qual, nm53, [], none, false⟩ 0 ρ₂ :=
    ⟨rfl, relabel_names G₂ sc53, rfl, G₂.glo, G₂.bui, .nil, G₂.dep, G₂.uni, G₂.hand, fun e => (by cases e), G₂.pre⟩
  have hit : h₃.IsListIter s₂.heap.objs.size la 0 := ⟨_, (X₃.N _ (X₃.hidMem (X₃.old _ (List.mem_cons_of_mem _ List.mem_cons_self)))).1, rfl, rfl⟩
  refine (fun hl => codeAny_compStart_list hl (wpAny_pyIter_listiter hit hl)) ?_
  refine cov_loop (c := 0) (l := []) (cx := ⟨cx.A.deeper env', compEnvC sc53 [] h₂.objs.size env', h₂.objs.size, L' :: cx.L :: cx.fas, covLoc k :: st.loc :: cx.stk, env' :: cx.env :: cx.outer⟩) ?_ G₄ offI offD (by rw [hsz₁]; exact Nat.ne_of_lt (Nat.lt_succ_self _)) (small_le hz) hla hk ⟨rfl, rfl⟩ h ⟨_, _, _, _, X₄.par rfl (swap2 X₄.old)⟩ (fun ρ' s' l Vs c acc now x' rV ev el R' => ?_) sc53
  · intro ρ' now l a b s' H Q' E' x' e1 e2 hb R' q'
    have nStart : evName ⟨fn53.qual, nm53, [], none, false⟩ ⟨now, l⟩ "start" = some (.int a) := by
      have h1 : isDebug "start" = false := by kernel_rfl
      have h2 : lk nm53 "start" = some .local := by kernel_rfl
      unfold evName
      rw [h1]
      dsimp only
      rw [h2]
      exact e1
    have nOct : evName ⟨fn53.qual, nm53, [], none, false⟩ ⟨now, l⟩ "octets" = some (.bytes b) := by
      have h1 : isDebug "octets" = false := by kernel_rfl
      have h2 : lk nm53 "octets" = some .local := by kernel_rfl
      unfold evName
      rw [h1]
      dsimp only
      rw [h2]
      exact e2
    have nLen : evName ⟨fn53.qual, nm53, [], none, false⟩ ⟨now, l⟩ "len" = some (.bi .len) := by kernel_rfl
    have G₅ := G₄.ext x'
    refine Tuple_ (spliced_more (name_go Y.D G₅ R' nStart fun V₁ r₁ => spliced_more (wpAny_BinOp (name_go Y.D G₅ R' nStart fun V₂ r₂ => Call_ (name_go Y.D G₅ R' nLen fun V₃ r₃ => ?_)))))
    cases r₃
    refine callWith_method1 (id := "len") (first := []) (spliced_more (name_go Y.D G₅ R' nOct fun V₄ r₄ => spliced_none ?_))
    cases r₁ with | int _ t₁ =>
    cases r₂ with | int _ t₂ =>
    cases r₄ with | bytes _ t₄ =>
    refine len_bytes (by rw [List.size_toArray]; omega) (PyProof.Rows.add_int (spliced_none ?_))
    rw [List.size_toArray]
    rw [len_eq b] at q'
    exact newTuple_go (st := ⟨now, l⟩) (R'.tok _) (.cons (.int a t₁) (.cons (.int _ _) .nil)) (by simp) q'
  · obtain ⟨objs', fo', hid', m', X'⟩ := R'
    obtain ⟨oC, esC, epC, hCd, hCk, hCf, objs₅, fo₅, hid₅, m₅, X₅⟩ := X'.retHide (cx := cx.enter st.loc env' L') (l := covLoc k) rfl rfl (Nat.le_trans X.F.above (Nat.le_refl _))
    have offC : ∀ p ∈ (s₂.heap.objs.size + 1, PySem.W.listOf Vs.toArray c) :: Y.ns.hid, p.1 ≠ h₂.objs.size := fun p hp => by
      rcases List.mem_cons.mp hp with rfl | hp
      · have y := X₂.lt _ (X₂.hidMem (X₂.old _ List.mem_cons_self))
        rw [hsz₁] at y
        exact Nat.ne_of_lt y
      · exact Nat.ne_of_lt (X₂.lt p (X₂.hidMem (X₂.old p (List.mem_cons_of_mem _ (List.mem_cons_of_mem _ hp)))))
    have hC₅ := (X₅.N _ (X₅.hidMem (X₅.old _ List.mem_cons_self))).1
    refine ⟨_, ⟨oC, esC, epC, hC₅, hCd, hCk, fun _ => rfl⟩, fun h' hs => ?_⟩
    rw [hsz₁] at X₅ offD ⊢
    obtain ⟨objs₆, fo₆, hid₆, m₆, X₆⟩ := RepX.unhide (ns := ⟨(s₂.heap.objs.size + 1, PySem.W.listOf Vs.toArray c) :: Y.ns.hid, Y.ns.pen⟩) (tk := s'.toks) X₅ hs.extBut (dict_no hCd) offC
    obtain ⟨objs₇, fo₇, hid₇, m₇, X₇⟩ := RepX.reveal (ns := Y.ns) (x := .list acc) X₆ (list_no _ _) offD (fun hid' => .list (n := c) (vrs_grow rV _))
    have cnt : now.length = ρ'.length := X₅.count
    refine q _ _ _ (ext.trans (x'.trans (Ext.snoc _ (s₂.heap.objs.size + 1)))) ?_ ?_
    · rw [ev, len_eq]
      exact loc_last cnt
    · rw [el, app_eq]
      exact X₇.ret below
end
end Sys
end Mine
end

section
open PySem PySem.W PyProof.Rows PySem.Calls
set_option autoImplicit false
set_option maxRecDepth 100000
namespace Mine
section
variable {prog : Program} {w : World} {A : Around} {E : Value → Shared → Prop} {s : Shared}
theorem sort_one {a : Addr} {v : Value} {n : Nat} {P : PySem.Fin → Shared → Prop} (ho : s.heap.get? a = some (seqObj "list" [v].toArray n))
    (h : P (.done (.ret .none)) { s with heap := sortedHeap s.heap a [v] [v].toArray }) :
    wpAny (model prog w) A (Builtin.«list.sort» ⟨[.ref a], []⟩) P E s := by
  rw [list_sort_plain]
  have ha : a < s.heap.objs.size := Heap.lt_size ho
  refine wpAny_bind (listItems_at ho rfl ?_)
  refine wpAny_bind (listUpdate_at ho rfl ?_)
  obtain ⟨e1, ho1⟩ : ∃ e1, (s.heap.update a (Obj.mapSeq fun _ => #[])).get? a = some (seqObj "list" #[] e1) := ⟨_, get?_update_seq ho (fun _ => #[])⟩
  refine wpAny_bind (seqEpoch_at ho1 rfl ?_)
  refine wpAny_bind (wpAny_newTuple ?_)
  refine wpAny_bind (wpAny_newList ?_)
  refine wpAny_holding ?_
  have ho6 : (((s.heap.update a (Obj.mapSeq fun _ => #[])).push (seqObj "tuple" [v].toArray 0)).push (seqObj "list" #[] 0)).get? a = some (seqObj "list" #[] e1) := by
    rw [Heap.get?_push_ne _ _ _ (by rw [size_push', Heap.size_update]; exact Nat.ne_of_lt (Nat.lt_succ_of_lt ha)), Heap.get?_push_ne _ _ _ (by rw [Heap.size_update]; exact Nat.ne_of_lt ha)]
    exact ho1
  show wpAny (model prog w) A _ P E { s with heap := ((s.heap.update a (Obj.mapSeq fun _ => #[])).push (seqObj "tuple" [v].toArray 0)).push (seqObj "list" #[] 0) }
  dsimp only
  have h2 : [v].toArray.size < 2 := by simp
  rw [if_pos h2, if_pos h2]
  refine wpAny_bind (wpAny_pure ?_)
  rw [StateT.run_pure]
  refine wpAny_bind (wpAny_pure ?_)
  dsimp only
  refine wpAny_bind (seqEpoch_at ho6 rfl ?_)
  refine wpAny_bind (listUpdate_at ho6 rfl ?_ (hsz2 := by rw [Array.size_map]; show (pairsOf [v]).size ≤ _; rw [pairsOf_size, sizeLine_eq]; simp))
  simp only [bne_self_eq_false, Bool.false_eq_true, if_false]
  refine wpAny_pure ?_
  rw [show Array.map (fun x => x.2) (arrOf (SortSt.mk' general' (#[v].zip #[v]) #[] 7 none)) = [v].toArray from by show Array.map _ (#[v].zip #[v]) = _; simp]
  exact h
theorem sorted_one {l : Addr} {v : Value} {Q : Value → Shared → Prop} (hl : s.heap.IsList l [v].toArray) (h : Q (.ref (s.heap.objs.size + 1)) { s with heap := sortedAll s.heap [v] [v].toArray }) :
    wpAny (model prog w) A (call (.builtin "sorted") [.ref l]) Q E s := by
  refine Calls.call_function_entry kind_sorted plain_sorted entry_sorted (args_sorted1 _) ?_
  unfold Builtin.«sorted»
  refine wpAny_bind (m := checkCount "sorted" 1 1 _) (wpAny_pure ?_)
  refine wpAny_bind (collect_list hl ?_)
  refine wpAny_bind (wpAny_newList ?_)
  have hsz : ((s.heap.push (seqObj "list" #[] 0)).update s.heap.objs.size (Obj.mapSeq (· ++ [v].toArray))).objs.size = s.heap.objs.size + 1 := by
    rw [Heap.size_update, size_push']
  have hoL : (((s.heap.push (seqObj "list" #[] 0)).update s.heap.objs.size (Obj.mapSeq (· ++ [v].toArray))).push (seqObj "list" [v].toArray 0)).get? (s.heap.objs.size + 1) = some (seqObj "list" [v].toArray 0) := by
    rw [← hsz]; exact Heap.get?_push_size _ rfl
  show wpAny _ _ _ _ _ { s with heap := ((s.heap.push (seqObj "list" #[] 0)).update s.heap.objs.size (Obj.mapSeq (· ++ [v].toArray))).push (seqObj "list" [v].toArray 0) }
  rw [hsz]
  refine wpAny_bind (wpAny_holding (wpAny_call_entry slot_list_sort ⟨_, hoL, rfl⟩ entry_list_sort (sort_one hoL ⟨_, rfl, ?_⟩) (args_list_sort _)))
  exact wpAny_pure ⟨_, rfl, h⟩
theorem kas2 {cmp : Nat → Nat → (Bool → Shared → Prop) → Shared → Prop} {Q : Array Nat → Shared → Prop} (h : cmp 1 0 (fun b s' => Q (if b = true then #[1, 0] else #[0, 1]) s') s) : (kas_sort 2).kasWp cmp Q s := by
  have e : (kas_sort 2).kasWp cmp Q s = cmp 1 0 (fun b s' => Q (if b = true then #[1, 0] else #[0, 1]) s') s := by
    show cmp 1 0 (fun b s' => KasT.kasWp cmp _ Q s') s = _
    congr 1
    funext b s'
    cases b <;> rfl
  rw [e]; exact h
end

namespace Sys
variable {Y : Sys}
section
variable {n : Nat} {cx : Cx} {fr : FI} {st st' st₁ : St} {ρ : List Addr} {s : Shared} {E : Value → Shared → Prop}
theorem sort_ok : Y.SortOk := by
  intro cx fr st ρ s k ka xs ys Q E hk h hka G R q
  obtain ⟨objs, fo, hid, m, X⟩ := R
  obtain ⟨Vs, c, r1, _, _, l1⟩ := X.list hk hka
  unfold sorted2 at h
  split at h
  · rename_i x
    split at h
    · cases h
      obtain ⟨V, Vr, rfl, rV, rr⟩ := r1.cons_left
      cases rr
      refine sorted_one l1 ?_
      obtain ⟨e, he⟩ := sortedAll_at s.heap [V] [V].toArray
      have F' := X.F.kept (h' := sortedAll s.heap [V] [V].toArray) fun _ _ => sortedAll_old
      have N' := X.N.kept_cons X.F (h' := sortedAll s.heap [V] [V].toArray) (fun _ _ => sortedAll_old) (Nat.le_succ _) he
      exact q _ _ _ (Ext.snoc _ _) (loc_last X.count) ⟨_, _, _, _, X.push (tk := s.toks) F' N' (fun p hp => Nat.lt_succ_of_lt (X.lt p hp)) (.list (n := e) (vrs_grow (.cons rV .nil) _))⟩
    · cases h
  · rename_i x y
    split at h
    · rename_i a b₁ c' b₂ h1 h2
      obtain ⟨t1, e1, g1, z1⟩ := pairOf_some h1
      obtain ⟨t2, e2, g2, z2⟩ := pairOf_some h2
      obtain ⟨V, Vr, rfl, rV, rr⟩ := r1.cons_left
      obtain ⟨W, Wr, rfl, rW, rr⟩ := rr.cons_left
      cases rr
      subst e1 e2
      split at h
      · cases h
      · rename_i hne
        cases rV with
        | @loc _ va hva =>
        cases rW with
        | @loc _ wa hwa =>
        obtain ⟨us, ru, tu, _⟩ := X.tuple g1 hva
        obtain ⟨ws, rw', tw, _⟩ := X.tuple g2 hwa
        obtain ⟨u1, us', rfl, ru1, ru'⟩ := ru.cons_left
        obtain ⟨w1, ws', rfl, rw1, rw''⟩ := rw'.cons_left
        cases ru1 with | int _ ut =>
        cases rw1 with | int _ wt =>
        refine kat_sorted X.F X.N l1 (Nat.le_refl 2) (by show 2 < 64; decide) fun D e1 h' F' N' hD => ?_
        have keepT : ∀ {a : Addr} {k : Nat} {zs : List V}, st.led[k]? = some (.tuple zs) → ρ[k]? = some a → ∃ o, h'.get? a = some o ∧ s.heap.get? a = some o := fun {a k zs} e1 e2 => by
          obtain ⟨o, ho, _, _⟩ := X.at e1 e2
          exact ⟨o, (N' _ (List.mem_cons_of_mem _ (X.mem e2 ho))).1, (X.N _ (X.mem e2 ho)).1⟩
        obtain ⟨ov, ov1, ov2⟩ := keepT g1 hva
        obtain ⟨ow, ow1, ow2⟩ := keepT g2 hwa
        obtain ⟨o1, p1, p2, np, p3⟩ := tu
        obtain ⟨o2, p4, p5, nq, p6⟩ := tw
        rw [ov2] at p1
        rw [ow2] at p4
        cases p1
        cases p4
        refine kat_kind (T := .type "int") (fs := [.int a ut, .int c' wt]) (KatTups.cons ov1 p2 p3 rfl (KatTups.cons ow1 p5 p6 rfl KatTups.nil)) (by simp) (fun v hv => ?_) (by decide) ?_
        · rcases List.mem_cons.mp hv with rfl | hv
          · exact .now
          · rw [List.mem_singleton.mp hv]; exact .now
        · have hne' : (c' == a) = false := by
            rw [beq_eq_false_iff_ne]
            intro e
            rw [e] at hne
            simp at hne
          refine kas2 ?_
          show wpAny _ _ (keyLt' (tuples' true) (.ref wa) (.ref va)) _ _ _
          refine kat_lt ow1 p6 ov1 p3 ?_
          show KatLex _ _ _ _ _ _ ((.int c' wt, .int a ut) :: _) _ _
          refine kat_cons (wpAny_eqBool_int ?_)
          rw [hne']
          refine kat_no (oneLt_int ?_)
          have U : UpdF D (seqObj "list" #[] e1) ((D, seqObj "list" #[] e1) :: newsOf fo hid ρ objs) (fun o' => (D, o') :: newsOf fo hid ρ objs) := .head fun p hp => Nat.ne_of_lt (hD p hp)
          split at h
          · rename_i hlt
            cases h
            have hlt := of_decide_eq_true hlt
            rw [decide_eq_true hlt, if_pos rfl]
            refine KasFin.intro F' N' U fun h'' c'' F'' N'' => ?_
            exact q _ _ _ (Ext.snoc _ D) (loc_last X.count) ⟨_, _, _, _, X.push (tk := s.toks) F'' N'' hD (.list (n := c'') (vrs_grow (.cons (.loc hwa) (.cons (.loc hva) .nil)) _))⟩
          · rename_i hlt
            cases h
            have hlt : ¬ c' < a := of_decide_eq_false hlt
            rw [decide_eq_false hlt, if_neg Bool.false_ne_true]
            refine KasFin.intro F' N' U fun h'' c'' F'' N'' => ?_
            exact q _ _ _ (Ext.snoc _ D) (loc_last X.count) ⟨_, _, _, _, X.push (tk := s.toks) F'' N'' hD (.list (n := c'') (vrs_grow (.cons (.loc hva) (.cons (.loc hwa) .nil)) _))⟩
    · cases h
  · cases h
end
end Sys
end Mine
end

section
open PySem PySem.W PyProof.Rows PySem.Calls
set_option autoImplicit false
set_option maxRecDepth 100000
namespace Mine
section
variable {prog : Program} {w : World} {A : Around} {E : Value → Shared → Prop} {s : Shared} {K : Frag} {C e : Addr} {oe : Obj} {od : Option Obj} {name : Str}
theorem exc_get {v : Value} {expr : Bool} {Q : Value → Shared → Prop} (X : K.In s.heap) (I : PySem.W.InstAt s.heap e oe C od) (hga : findIn K (.ref C) "__getattribute__" = some (some (.builtin "BaseException.__getattribute__")))
    (hgt : findIn K (.ref C) "__getattr__" = some none) (hB : mroIn K C (.type "BaseException") = some true) (hf : findObj K C od name = some (.value v)) (hh : handedIn v = true) (h : Q v { s with toks := s.toks + 1 }) :
    wpAny (model prog w) A (getAttr (.ref e) name expr) Q E s := by
  obtain ⟨hp, g, d, t, os⟩ := s
  have L0 := InstAt.type (M := model prog w) I
  have L1 := looks_findIn (M := model prog w) X hga
  have L2 := looks_findIn (M := model prog w) X hgt
  have L3 := looks_find (M := model prog w) X I hf
  have L4 : Looks (model prog w) hp (isInstance (.ref e) (.type "BaseException")) true := L0.andThen (looks_mroIn X hB)
  unfold getAttr getAttrBy
  refine wpAny_bind (wpAny_mkText (wpAny_holding (wpAny_bind (L0.at (wpAny_bind (L1.at ?_))))))
  have hx2 : (Value.builtin "BaseException.__getattribute__" == Value.builtin "object.__getattribute__") = false := by decide +kernel
  dsimp only
  rw [hx2, Bool.and_false, if_neg Bool.false_ne_true]
  unfold getAttrByItsOwn hookBefore
  refine wpAny_bind ?_
  show wpAny _ _ (typeLookup (.ref C) "__getattr__") _ _ _
  refine L2.at (wpAny_bind (wpAny_attempt (wpAny_holding ?_)))
  have hx0 : (expr && onTheHeap (Value.builtin "BaseException.__getattribute__")) = false := by cases expr <;> rfl
  unfold callGetattribute
  rw [hx0, if_neg Bool.false_ne_true]
  unfold boundAndCalled
  rw [PySem.F.attr_Exception.ga.bind (.ref e)]
  refine wpAny_bind (wpAny_pure ?_)
  have hk : builtinKind "BaseException.__getattribute__" = some .slot := by decide +kernel
  have hsplit : splitId "BaseException.__getattribute__" = some ("BaseException", "__getattribute__") := by decide +kernel
  refine wpAny_call (codeAny_call_builtin PySem.F.attr_Exception.ga.plain PySem.F.entry_bexc_ga (@check_slot (model prog w) _ _ _ "BaseException.__getattribute__" "BaseException" "__getattribute__" (.ref e) _ [] _ hk hsplit L4 (PySem.F.args_bexc_ga _ _) ?_))
  unfold Builtin.«object.__getattribute__»
  refine wpAny_bind (wpAny_pure ?_)
  refine wpAny_bind (wpAny_pure ?_)
  refine wpAny_bind (L0.at (wpAny_bind (L3.at ?_)))
  refine wpAny_pure ?_
  show wpAny _ _ (handedOut v) _ _ _
  rw [handedOut_of hh]
  exact wpAny_pure h
end
end Mine
end

section
open PySem PySem.W PyProof.Rows PySem.Calls
set_option autoImplicit false
set_option maxRecDepth 100000
namespace Mine
section
variable {prog : Program} {w : World} {A : Around} {R : Result → Shared → Prop} {s : Shared} {K : Frag} {C x : Addr} {ox : Obj} {od : Option Obj} {name : Str}
noncomputable def bmE : List Value := [.type "Exception", .type "BaseException", .type "object"]
theorem xsa_open {tk : Tok} {v : Value} (X : K.In s.heap) (I : PySem.W.InstAt s.heap x ox C od) (hm : ∃ cd, clsIn K C = some cd ∧ cd.mro = .ref C :: bmE) (ht : takerIn K C name = some none)
    (h : ∀ b, wpAny (model prog w) A.in1 (Builtin.ObjectAttr.storeInOwnDict (.ref x) (.ref C) (.str name tk) name v b)
      (fun fin s' => match fin with | .done f => R (.ok f) s' | .again c' => c'.quiet = true ∧ codeAny (model prog w) A c' R s') (fun e s' => R (.error e) s') s) :
    codeAny (model prog w) A (.call (.builtin "object.__setattr__") ⟨[.ref x, .str name tk, v], []⟩) R s := by
  have SF := PySem.F.store_Exception
  obtain ⟨cd, hc, ho⟩ := hm
  have ne : cd.mro.isEmpty = false := by rw [ho]; rfl
  have sub : Looks (model prog w) s.heap (isInstance (.ref x) (.type "object")) true := (InstAt.type I).andThen (looks_mroIn X (by unfold mroIn; rw [hc, Option.bind_some, if_neg (by rw [ne]; decide), ho, List.contains_cons]; rfl))
  refine codeAny_call_builtin SF.slot.plain SF.entry (@check_slot (model prog w) _ _ s "object.__setattr__" "object" "__setattr__" (.ref x) [.str name tk, v] [] _ SF.kind SF.split sub (SF.args (.ref x) (.str name tk) v) ?_)
  obtain ⟨attr, ha, hr⟩ := Option.bind_eq_some_iff.mp ht
  have hm : Looks (model prog w) s.heap (mroOf (.ref C)) cd.mro := (looks_clsIn X hc).andThen .now
  have L3 : Looks (model prog w) s.heap (Builtin.ObjectAttr.storeTaker? attr) none := by
    cases attr with
    | none => exact .now
    | some a =>
      obtain ⟨b, hb, hb2⟩ := Option.map_eq_some_iff.mp hr
      refine (looks_takesIn X hb).andThen ?_
      cases b with
      | true => cases hb2
      | false => exact .now
  rw [osa_eq, refuse_eq]
  refine wpAny_bind (wpAny_bind ((InstAt.type I).here (wpAny_bind (hm.here ?_))))
  rw [ho, refuseLoop_ref]
  show wpAny _ _ (refuseLoop (.ref x) "__setattr__" bmE) _ _ _
  unfold bmE
  rw [SF.passes (.ref x)]
  refine wpAny_pure (wpAny_bind ((InstAt.type I).here (wpAny_bind ((looks_findIn X ha).here (wpAny_bind (L3.here ?_))))))
  exact h _

/-- the last step of a store: the dict's entry set -/
theorem nsSet_at {dx : Addr} {es es' : List DictEntry} {n n' : Nat} {v : Value} {tk : Tok} {E : Value → Shared → Prop} {Q : PySem.Fin → Shared → Prop} (D : s.heap.get? dx = some (dictOf es n)) (hl : (getL name es).isSome = true)
    (e : (putL name (PyData.keyHash w.params name) (.str name s.toks) v es, putN name es n) = (es', n')) (hz : es'.length ≤ 1000)
    (h : ∀ h', h'.get? dx = some (dictOf es' n') → (∀ b, b ≠ dx → h'.get? b = s.heap.get? b) → h'.objs.size = s.heap.objs.size → Q (.done (.ret .none)) { s with heap := h', toks := s.toks + 1 }) :
    wpAny (model prog w) A (Builtin.ObjectAttr.storeInDict dx (.str name tk) name v) Q E s := by
  obtain ⟨e1, e2⟩ := Prod.mk.inj e
  have hput : Obj.putName name (PyData.keyHash w.params name) (.str name s.toks) v (dictOf es n) = dictOf es' n' := by rw [putName_dict, e1, e2]
  have D' : (s.heap.update dx (Obj.putName name (PyData.keyHash w.params name) (.str name s.toks) v)).get? dx = some (dictOf es' n') := by
    rw [Heap.get?_update_self _ D (by rw [hput]; rfl), hput]
  unfold Builtin.ObjectAttr.storeInDict Builtin.ObjectAttr.newKeyGuard
  refine wpAny_bind (wpAny_pure (wpAny_bind ?_))
  unfold nsSet
  refine wpAny_bind (wpAny_bind (wpAny_askSetting (wpAny_pure (wpAny_bind (wpAny_mkText (wpAny_bind (wpAny_loadPart D ?_)))))))
  have hl' : (lookIn name (dictOf es n)).isSome = true := by rw [lookIn_dict]; exact hl
  unfold lookIn at hl'
  dsimp only at hl' ⊢
  have c : (!es.toArray.any (·.key.isStr name) && es.toArray.any (·.refKey)) = false := by
    rw [← Array.any_toList, ← Array.any_toList]
    split at hl'
    · rename_i en he
      rw [List.any_eq_true.mpr ⟨en, List.mem_of_find?_eq_some he, List.find?_some he⟩]; rfl
    · split at hl'
      · cases hl'
      · rename_i z; rw [Bool.not_eq_true] at z; rw [z, Bool.and_false]
  rw [aRefKeyMayBeTheName_at, c]
  refine wpAny_updatePart D ?_
  refine wpAny_bind (wpAny_lookBehind D' (pastItsLine_dict (by rw [List.size_toArray, sizeLine_eq]; omega)) ?_)
  exact wpAny_pure (h _ D' (fun b hb => Heap.get?_update_other _ _ (Ne.symm hb)) (Heap.size_update ..))

theorem xset_next {dx : Addr} {es es' : List DictEntry} {n n' : Nat} {v : Value} {E : Value → Shared → Prop} {Q : Unit → Shared → Prop} (X : K.In s.heap) (I : PySem.W.InstAt s.heap x ox C (some (dictOf es n))) (hd : ox.dict = some dx)
    (hm : ∃ cd, clsIn K C = some cd ∧ cd.mro = .ref C :: bmE) (hh : hasDictIn K C = true) (hs : findIn K (.ref C) "__setattr__" = some (some (.builtin "object.__setattr__"))) (ht : takerIn K C name = some none) (hl : (getL name es).isSome = true)
    (e : (putL name (PyData.keyHash w.params name) (.str name (s.toks + 1)) v es, putN name es n) = (es', n')) (hz : es'.length ≤ 1000)
    (h : ∀ h', h'.get? dx = some (dictOf es' n') → (∀ b, b ≠ dx → h'.get? b = s.heap.get? b) → h'.objs.size = s.heap.objs.size → Q () { s with heap := h', toks := s.toks + 2 }) :
    wpAny (model prog w) A (setAttr (.ref x) name v) Q E s := by
  refine set_plain X I hs (xsa_open (s := { s with toks := s.toks + 1 }) X I hm ht fun b => ?_)
  obtain ⟨cd, hc, hd'⟩ := any_some hh
  have D : s.heap.get? dx = some (dictOf es n) := by
    have := I.dict
    rw [hd] at this
    exact this
  obtain ⟨hx, hcl, hn, -⟩ := I
  obtain ⟨oc, odi, oda, osl⟩ := ox
  dsimp only at hcl hd
  subst hcl hd
  refine wpAny_bind (wpAny_pure (wpAny_bind (wpAny_bind (wpAny_loadPart hx (wpAny_bind (Looks.here (s := { s with toks := s.toks + 1 }) (looks_clsIn X hc) ?_))))))
  rw [hd']
  refine wpAny_pure (a := some dx) ?_
  exact nsSet_at (s := { s with toks := s.toks + 1 }) D hl e hz fun h' g1 g2 g3 => h h' g1 g2 g3

theorem xset_first {es' : List DictEntry} {n' : Nat} {v : Value} {E : Value → Shared → Prop} {Q : Unit → Shared → Prop} (X : K.In s.heap) (I : PySem.W.InstAt s.heap x ox C none) (hd : ox.dict = none) (hnc : ∀ c, ox.data ≠ .cls c)
    (hm : ∃ cd, clsIn K C = some cd ∧ cd.mro = .ref C :: bmE) (hh : hasDictIn K C = true) (hs : findIn K (.ref C) "__setattr__" = some (some (.builtin "object.__setattr__"))) (ht : takerIn K C name = some none)
    (e : (putL name (PyData.keyHash w.params name) (.str name (s.toks + 1)) v [], putN name [] 0) = (es', n')) (hz : es'.length ≤ 1000)
    (h : ∀ h', h'.get? x = some { ox with dict := some s.heap.objs.size } → h'.get? s.heap.objs.size = some (dictOf es' n') → (∀ b o, b ≠ x → s.heap.get? b = some o → h'.get? b = some o) → Q () { s with heap := h', toks := s.toks + 2 }) :
    wpAny (model prog w) A (setAttr (.ref x) name v) Q E s := by
  refine set_plain X I hs (xsa_open (s := { s with toks := s.toks + 1 }) X I hm ht fun b => ?_)
  obtain ⟨cd, hc, hd'⟩ := any_some hh
  obtain ⟨hx, hcl, hn, -⟩ := I
  obtain ⟨oc, odi, oda, osl⟩ := ox
  dsimp only at hcl hd hnc
  subst hcl hd
  have hlt : x < s.heap.objs.size := Heap.lt_size hx
  have hx₁ : (s.heap.push { cls := .type "dict", data := .dict #[] }).get? x = some ⟨.ref C, none, oda, osl⟩ := Heap.get?_push_of_some _ hx
  refine wpAny_bind (wpAny_pure (wpAny_bind (wpAny_bind (wpAny_loadPart hx (wpAny_bind (Looks.here (s := { s with toks := s.toks + 1 }) (looks_clsIn X hc) ?_))))))
  rw [hd']
  have go : wpAny (model prog w) A.in1 (do let d ← alloc { cls := .type "dict", data := .dict #[] }; update x fun o => { o with dict := some d }; dictMade (.ref C) x d : Sem (Option Addr))
      (fun a s' => a = some s.heap.objs.size ∧ s' = { s with heap := (s.heap.push { cls := .type "dict", data := .dict #[] }).update x fun o => { o with dict := some s.heap.objs.size }, toks := s.toks + 1 }) (fun _ _ => False) { s with toks := s.toks + 1 } :=
    wpAny_bind (wpAny_alloc (wpAny_bind (wpAny_update hx₁ (wpAny_pure ⟨rfl, rfl⟩))))
  have D : ((s.heap.push { cls := .type "dict", data := .dict #[] }).update x fun o => { o with dict := some s.heap.objs.size }).get? s.heap.objs.size = some (dictOf [] 0) := by
    rw [Heap.get?_update_other _ _ (Nat.ne_of_lt hlt), Heap.get?_push_size _ rfl]
  have hx₂ : ((s.heap.push { cls := .type "dict", data := .dict #[] }).update x fun o => { o with dict := some s.heap.objs.size }).get? x = some ⟨.ref C, some s.heap.objs.size, oda, osl⟩ :=
    Heap.get?_update_self _ hx₁ (by have := (Heap.get?_some_iff.mp hx).2; cases oda <;> first | rfl | exact this)
  cases oda with
  | cls c => simp [notCls] at hn
  | _ =>
    refine wpAny_mono go ?_ (fun _ _ z => z.elim)
    rintro a s' ⟨rfl, rfl⟩
    refine nsSet_at D rfl e hz fun h' g1 g2 g3 => h h' ?_ g1 ?_
    · rw [g2 x (Nat.ne_of_lt hlt)]; exact hx₂
    · intro b' o hb ho
      have hb' : b' ≠ s.heap.objs.size := fun z => by rw [z] at ho; exact absurd (Heap.lt_size ho) (Nat.lt_irrefl _)
      rw [g2 b' hb', Heap.get?_update_other _ _ (Ne.symm hb)]
      exact Heap.get?_push_of_some _ ho
end
end Mine
end

section
open PySem PySem.W PyProof.Rows PySem.Calls
set_option autoImplicit false
set_option maxRecDepth 100000
namespace Mine
section
variable {ns : Par} {S₀ : Shared} {B : Heap} {cx : Cx} {st : St} {ρ : List Addr} {s : Shared} {objs : List Obj} {fo hid : Hid} {m : Str → Option Value} {d : Addr} {o : Obj}
/-- one more hidden object, wherever it lies -/
theorem RepX.hideN (X : RepX ns S₀ B cx st ρ s objs fo hid m) {h' : Heap} {tk : Nat} {a : Addr} {o : Obj} (F : Fr B cx.L h' m) (N : News B cx.L h' ((a, o) :: newsOf fo hid ρ objs)) (ha : ∀ p ∈ newsOf fo hid ρ objs, p.1 ≠ a) :
    RepX ⟨(a, o) :: ns.hid, ns.pen⟩ S₀ B cx st ρ { s with heap := h', toks := tk } objs fo ((a, o) :: hid) m := by
  refine ⟨F, fun p hp => N p ?_, ?_, X.len, X.led.mono fun _ _ r => (?_ : OR _ _ _ _ _), X.fas, X.stk, X.loc, X.sh, fun p hp => ?_⟩
  · rcases List.mem_append.mp hp with hp | hp
    · exact List.mem_cons_of_mem _ (List.mem_append_left _ hp)
    · rcases List.mem_cons.mp hp with rfl | hp
      · exact List.mem_cons_self
      · exact List.mem_cons_of_mem _ (List.mem_append_right _ hp)
  · show ((fo ++ ((a, o) :: (hid ++ ρ.zip objs))).map (·.1)).Nodup
    rw [List.map_append, List.map_cons, List.perm_middle.nodup_iff, ← List.map_append, List.nodup_cons]
    refine ⟨fun hm => ?_, X.nd⟩
    obtain ⟨p, hp, e⟩ := List.mem_map.mp hm
    exact ha p hp e
  · have := r.grow (hid' := (a, o) :: hid) [] (fun p hp => List.mem_cons_of_mem _ hp)
    rw [List.append_nil] at this
    exact OR.re (ns := ns) rfl this
  · rcases List.mem_cons.mp hp with rfl | hp
    · exact List.mem_cons_self
    · exact List.mem_cons_of_mem _ (X.old p hp)
/-- a hidden object no longer told of, and off all that is -/
theorem RepX.drop (X : RepX ⟨(d, o) :: ns.hid, ns.pen⟩ S₀ B cx st ρ s objs fo hid m) (hn : NotTab o) (off : ∀ p ∈ ns.hid, p.1 ≠ d) :
    s.heap.get? d = some o ∧ B.get? d = none ∧ d ≠ cx.L ∧ ∃ hid', RepX ns S₀ B cx st ρ s objs fo hid' m ∧ (∀ p ∈ newsOf fo hid' ρ objs, p.1 ≠ d) ∧ ∀ p ∈ hid', p ∈ hid := by
  have hm : (d, o) ∈ hid := X.old _ List.mem_cons_self
  have hm' := X.hidMem hm
  have z := X.N _ hm'
  have sub : (newsOf fo (hid.filter fun p => p.1 != d) ρ objs).Sublist (newsOf fo hid ρ objs) := (List.Sublist.refl fo).append (List.filter_sublist.append (List.Sublist.refl _))
  have hne : ∀ p ∈ newsOf fo (hid.filter fun p => p.1 != d) ρ objs, p.1 ≠ d := by
    have h := X.nd
    rw [show newsOf fo hid ρ objs = fo ++ (hid ++ ρ.zip objs) from rfl, List.map_append, List.map_append] at h
    have h1 := List.nodup_append.mp h
    have h2 := List.nodup_append.mp h1.2.1
    have hd : d ∈ hid.map (·.1) := List.mem_map.mpr ⟨_, hm, rfl⟩
    intro p hp e
    rcases List.mem_append.mp hp with hp | hp
    · exact h1.2.2 p.1 (List.mem_map_of_mem hp) d (List.mem_append_left _ hd) e
    · rcases List.mem_append.mp hp with hp | hp
      · have := (List.mem_filter.mp hp).2
        exact absurd e (bne_iff_ne.mp this)
      · exact h2.2.2 d hd p.1 (List.mem_map_of_mem hp) e.symm
  refine ⟨z.1, z.2.2, z.2.1, hid.filter fun p => p.1 != d, ⟨X.F, fun p hp => X.N p (sub.subset hp), X.nd.sublist (sub.map _), X.len, X.led.mono fun _ _ r => (?_ : OR _ _ _ _ _), X.fas, X.stk, X.loc, X.sh, fun p hp => ?_⟩, hne, fun p hp => (List.mem_filter.mp hp).1⟩
  · exact OR.re (ns := ⟨(d, o) :: ns.hid, ns.pen⟩) rfl (r.other X.hidNodup hm hn fun p hp hne => List.mem_filter.mpr ⟨hp, bne_iff_ne.mpr hne⟩)
  · exact List.mem_filter.mpr ⟨X.old p (List.mem_cons_of_mem _ hp), bne_iff_ne.mpr (off p hp)⟩
end

section
variable {prog : Program} {w : World} {A : Around} {E : Value → Shared → Prop} {s : Shared}
variable {nm q : Str} {C N : Addr} {bs bm : List Value} {hdct : Bool} {sn : List Str} {sub : List Value} {ab : Bool} {col : Option Bool} {dd : Option Addr} {k0 k1 k2 k3 k5 : Option Value}
noncomputable def excObj (C t : Addr) : Obj := { cls := .ref C, data := .fields #[.ref t, .none, .none, .none, .bool false, .none] }
theorem exc_init {e t : Addr} {x : Str} {tk : Tok} {Q : Value → Shared → Prop} (hC : s.heap.get? C = some (excClassObj nm q C N bs bmE hdct sn sub ab col dd k0 k1 k2 k3 k5 "Exception.__new__")) (he : s.heap.get? e = some (excObj C t))
    (h : ∀ h' t', h'.get? e = some (excObj C t') → (∀ b o, b ≠ e → s.heap.get? b = some o → h'.get? b = some o) → Q .none { s with heap := h' }) :
    wpAny (model prog w) A (call (.builtin "Exception.__init__") [.ref e, .str x tk]) Q E s := by
  obtain ⟨hp, g, d, t0, os⟩ := s
  have F := PySem.F.excBase_Exception
  refine wpAny_call (codeAny_call_builtin F.init.plain F.initEntry (wpAny_check_init_sub F hC he rfl ?_))
  wp_walk
  have he0 : e ≠ hp.objs.size := Nat.ne_of_lt (Heap.lt_size he)
  refine h _ hp.objs.size ?_ fun b o hb ho => ?_
  · rw [Heap.get?_update_self _ (Heap.get?_push_of_some _ he) rfl]
    rfl
  · rw [Heap.get?_update_other _ _ (Ne.symm hb)]
    exact Heap.get?_push_of_some _ ho
end
theorem excNotTab {C t : Addr} {od : Option Addr} : NotTab { cls := .ref C, dict := od, data := .fields #[.ref t, .none, .none, .none, .bool false, .none] } := fun vs q t h e => by
  cases h
  cases e
theorem dictNotTab {es : List DictEntry} {n : Nat} : NotTab (dictOf es n) := fun vs q t h => by cases h
section
variable {ns : Par} {S₀ : Shared} {B : Heap} {cx : Cx} {st : St} {ρ : List Addr} {s : Shared} {objs : List Obj} {fo hid : Hid} {m : Str → Option Value} {d : Addr} {o : Obj}
theorem fr_grown {B h h' : Heap} {L : Addr} {m : Str → Option Value} (F : Fr B L h m) (d : Addr) (h1 : d ≠ L) (h2 : B.get? d = none) (k : ∀ b o, b ≠ d → h.get? b = some o → h'.get? b = some o) : Fr B L h' m :=
  ⟨F.ns.at' fun o e => k _ o (Ne.symm h1) e, fun b o e => k b o (fun q => by rw [q, h2] at e; cases e) (F.keep b o e), F.above⟩
/-- a hidden object turned, the heap grown -/
theorem RepX.turn (X : RepX ⟨(d, o) :: ns.hid, ns.pen⟩ S₀ B cx st ρ s objs fo hid m) {h' : Heap} {tk : Nat} {o' : Obj} (k : ∀ b o, b ≠ d → s.heap.get? b = some o → h'.get? b = some o) (ho : h'.get? d = some o') (hn : NotTab o) (off : ∀ p ∈ ns.hid, p.1 ≠ d) :
    ∃ hid', RepX ⟨(d, o') :: ns.hid, ns.pen⟩ S₀ B cx st ρ { s with heap := h', toks := tk } objs fo ((d, o') :: hid') m ∧ ∀ p ∈ newsOf fo hid' ρ objs, p.1 < s.heap.objs.size := by
  obtain ⟨h1, h2, h3, hid', X', hne, _⟩ := X.drop hn off
  refine ⟨hid', X'.hideN (fr_grown X'.F d h3 h2 k) (fun p hp => ?_) hne, X'.lt⟩
  rcases List.mem_cons.mp hp with rfl | hp
  · exact ⟨ho, h3, h2⟩
  · exact ⟨k _ _ (hne p hp) (X'.N p hp).1, (X'.N p hp).2⟩
/-- the same, a new object besides -/
theorem RepX.turn2 (X : RepX ⟨(d, o) :: ns.hid, ns.pen⟩ S₀ B cx st ρ s objs fo hid m) {h' : Heap} {tk : Nat} {o' ox : Obj} (k : ∀ b o, b ≠ d → s.heap.get? b = some o → h'.get? b = some o) (ho : h'.get? d = some o') (hx : h'.get? s.heap.objs.size = some ox) (hn : NotTab o) (off : ∀ p ∈ ns.hid, p.1 ≠ d) :
    ∃ hid', RepX ⟨(s.heap.objs.size, ox) :: (d, o') :: ns.hid, ns.pen⟩ S₀ B cx st ρ { s with heap := h', toks := tk } objs fo hid' m := by
  obtain ⟨h1, _, _, _⟩ := X.drop hn off
  obtain ⟨hid', X', lt⟩ := X.turn (tk := tk) k ho hn off
  have hd : d < s.heap.objs.size := Heap.lt_size h1
  refine ⟨_, X'.hideN (tk := tk) (h' := h') X'.F (fun p hp => ?_) fun p hp => ?_⟩
  · rcases List.mem_cons.mp hp with rfl | hp
    · refine ⟨hx, fun z => ?_, none_at (Nat.le_trans X.F.above (Nat.le_of_lt X.F.ns.lt))⟩
      have := X.F.ns.lt
      rw [← z] at this
      exact Nat.lt_irrefl _ this
    · exact X'.N p hp
  · rcases List.mem_append.mp hp with hp | hp
    · exact Nat.ne_of_lt (lt p (List.mem_append_left _ hp))
    · rcases List.mem_append.mp hp with hp | hp
      · rcases List.mem_cons.mp hp with rfl | hp
        · exact Nat.ne_of_lt hd
        · exact Nat.ne_of_lt (lt p (List.mem_append_right _ (List.mem_append_left _ hp)))
      · exact Nat.ne_of_lt (lt p (List.mem_append_right _ (List.mem_append_right _ hp)))
end
end Mine
end

section
open PySem PySem.W PyProof.Rows PySem.Calls
set_option autoImplicit false
set_option maxRecDepth 100000
namespace Mine
noncomputable def fn28 : Fn := match methFn 3 0 with
  | some F => F
  | none => ⟨"", [], [], [], none⟩
/-- what the written part says of the exception's class -/
structure KX (K : Frag) : Prop where
  cls : ∃ nm q bs sn sub ab col dd k0 k1 k2 k3 k5, K.lookup 31 = some (excClassObj nm q 31 30 bs bmE true sn sub ab col dd k0 k1 k2 k3 k5 "Exception.__new__")
  ns : ∃ oc od es ep sl, K.lookup 30 = some ⟨oc, od, .dict es ep, sl⟩ ∧ StrKeys es ∧ nsFind es "__init__" = some (.ref 28)
  fn : FnK K 28 fn28
  isfn : ∃ o, K.lookup 28 = some o ∧ o.cls = .type "function"
  keep31 : keepIn K (.ref 31) = true
  seta : findIn K (.ref 31) "__setattr__" = some (some (.builtin "object.__setattr__"))
  code : takerIn K 31 "code" = some none
  frame : takerIn K 31 "frame_type" = some none
  text : takerIn K 31 "text" = some none
  dict : hasDictIn K 31 = true
  mro : ∃ cd, clsIn K 31 = some cd ∧ cd.mro = .ref 31 :: bmE
  init : findCls K (.type "Exception") (.type "type") "__init__" = some (.val (.builtin "Exception.__init__"))
  exc : nsIn K mainGlobals "Exception" = some none
  str : nsIn K mainGlobals "str" = some none

theorem excMeta : kitMeta "Exception" = true := by decide +kernel
theorem excStub : Manifest.isStub "Exception" = false := by decide +kernel
theorem excHanded : handedIn (.builtin "Exception.__init__") = true := by decide +kernel
theorem excMethod {prog : Program} {w : World} {A : Around} {E : Value → Shared → Prop} {s : Shared} {K : Frag} {L : Addr} {h₀ : Heap} {m : Str → Option Value} {pl : Sem Bool} {Q : Value × List Value → Shared → Prop} (F : Fr h₀ L s.heap m) (X₀ : K.In h₀)
    (e : findCls K (.type "Exception") (.type "type") "__init__" = some (.val (.builtin "Exception.__init__"))) (h : Q (.builtin "Exception.__init__", []) { s with toks := s.toks + 1 }) :
    wpAny (model prog w) A (getMethod (.type "Exception") "__init__" pl) Q E s := by
  have ht := kitMeta_of excMeta
  exact method_type F X₀ ht excStub e excHanded h
noncomputable def initLoc (e : Addr) (c f : Int) (x : Str) : Loc := [("self", .fn e), ("code", .int c), ("frame_type", .int f), ("text", .str x)]
theorem text_small {a : Int} (h : a.natAbs ≤ 1000) : (Str.ofString (toString a)).length ≤ 1000 := by
  have e := int_text_length_le10 (k := 10) (by decide) (a := a) (by omega)
  rw [PySem.ofString_length]; omega
namespace Sys
variable {Y : Sys}
section
variable {n : Nat} {cx : Cx} {fr : FI} {st st' st₁ : St} {ρ : List Addr} {s : Shared} {E : Value → Shared → Prop}

/-- a built-in's name, in a function -/
theorem built_go {A : Around} {x : Str} {V : Value} {pos : Pos} {Q : Value → Shared → Prop} (G : Y.Gd cx fr n ρ) (R : Y.Rp cx st ρ s) (hx : fr.names.lookup x = some .globalImplicit) (e1 : nsIn Y.K mainGlobals x = some none) (e2 : bootBuiltins x = some V) (e3 : x ≠ "__name__")
    (hd : (x == ("__debug__" : Str)) = false) (q : Q V s) : Y.wp A (eval (.Name x pos) cx.env) Q E s := by
  obtain ⟨objs, fo, hid, m, X⟩ := R
  refine Name_function_global G.kind (by show cx.env.scope.names.lookup x = _; rw [G.names]; exact hx) (loadGlobal_builtin (by rw [G.glo]; exact Y.D.T.g.keeps X.F.keep) (mg_none_of Y.D.X Y.D.T.g e1) (by rw [G.bui]; exact Y.D.T.b.keeps X.F.keep) ((Y.D.T.builtins x e3).trans e2) q) hd

theorem stores {A : Around} {e t : Addr} {c f : Int} {x : Str} {H : Hid} {pen : Nat → Obj → Prop} {led : List O} {loc : Loc} {s₃ : Shared} {objs : List Obj} {fo hid : Hid} {m : Str → Option Value} {Q : Flow → Shared → Prop} (KX : KX Y.K) (G : Y.Gd cx fr n ρ) (off : ∀ p ∈ H, p.1 ≠ e)
    (X₃ : RepX ⟨(e, excObj 31 t) :: H, pen⟩ Y.S₀ Y.B cx ⟨led, loc⟩ ρ s₃ objs fo hid m) (codeV : evName fr ⟨led, loc⟩ "code" = some (.int c)) (frameV : evName fr ⟨led, loc⟩ "frame_type" = some (.int f)) (selfV : evName fr ⟨led, loc⟩ "self" = some (.fn e)) (textV : evName fr ⟨led, loc⟩ "text" = some (.str x))
    {p1 p2 p3 p4 p5 p6 p7 p8 p9 p10 p11 p12 : Pos}
    (q : ∀ dx es nn hid' s', (∃ u, getL "code" es = some (some (.int c u))) → (∃ u, getL "frame_type" es = some (some (.int f u))) → dx ≠ e → (∀ p ∈ H, p.1 ≠ dx) → s'.gens = s₃.gens →
      RepX ⟨(dx, dictOf es nn) :: (e, { excObj 31 t with dict := some dx }) :: H, pen⟩ Y.S₀ Y.B cx ⟨led, loc⟩ ρ s' objs fo hid' m → Q .next s') :
    Y.wp A (execs (.Assign [.Attribute (.Name "self" p1) "code" p2] (.Name "code" p3) p4 :: .Assign [.Attribute (.Name "self" p5) "frame_type" p6] (.Name "frame_type" p7) p8 :: .Assign [.Attribute (.Name "self" p9) "text" p10] (.Name "text" p11) p12 :: []) cx.env) Q E s₃ := by
  have he₃ := (X₃.N _ (X₃.hidMem (X₃.old _ List.mem_cons_self))).1
  have ed : e ≠ s₃.heap.objs.size := Nat.ne_of_lt (Heap.lt_size he₃)
  have offD : ∀ p ∈ (⟨(e, { excObj 31 t with dict := some s₃.heap.objs.size }) :: H, pen⟩ : Par).hid, p.1 ≠ s₃.heap.objs.size := fun p hp => by
    rcases List.mem_cons.mp hp with rfl | hp
    · exact ed
    · exact Nat.ne_of_lt (X₃.lt p (X₃.hidMem (X₃.old p (List.mem_cons_of_mem _ hp))))
  refine wpAny_execs_cons (plainObj_wpAny_Assign_Attribute ?_ (comp_no rfl _ _ _))
  refine name_go Y.D G ⟨_, _, _, _, X₃⟩ codeV fun V rV => ?_
  cases rV with | int _ u₁ =>
  refine name_go Y.D G ⟨_, _, _, _, X₃⟩ selfV fun V rV => ?_
  cases rV
  refine xset_first (Y.D.X.keeps X₃.F.keep) ⟨he₃, rfl, rfl, trivial⟩ rfl (fun c q => by cases q) KX.mro KX.dict KX.seta KX.code rfl (Nat.le_of_ble_eq_true rfl) fun h₄ a₄ b₄ k₄ => ?_
  obtain ⟨hid₄, X₄⟩ := RepX.turn2 (ns := ⟨H, pen⟩) X₃ (tk := s₃.toks + 2) k₄ a₄ b₄ excNotTab off
  refine wpAny_execs_cons (plainObj_wpAny_Assign_Attribute ?_ (comp_no rfl _ _ _))
  refine name_go Y.D G ⟨_, _, _, _, X₄⟩ frameV fun V rV => ?_
  cases rV with | int _ u₂ =>
  refine name_go Y.D G ⟨_, _, _, _, X₄⟩ selfV fun V rV => ?_
  cases rV
  refine xset_next (Y.D.X.keeps X₄.F.keep) ⟨a₄, rfl, rfl, b₄⟩ rfl KX.mro KX.dict KX.seta KX.frame rfl rfl (Nat.le_of_ble_eq_true rfl) fun h₅ b₅ k₅ z₅ => ?_
  obtain ⟨hid₅, X₅, _⟩ := RepX.turn (ns := ⟨(e, { excObj 31 t with dict := some s₃.heap.objs.size }) :: H, pen⟩) X₄ (tk := s₃.toks + 2 + 2) (fun b o hb ho => (k₅ b hb).trans ho) b₅ dictNotTab offD
  refine wpAny_execs_cons (plainObj_wpAny_Assign_Attribute ?_ (comp_no rfl _ _ _))
  refine name_go Y.D G ⟨_, _, _, _, X₅⟩ textV fun V rV => ?_
  cases rV with | str _ u₃ =>
  refine name_go Y.D G ⟨_, _, _, _, X₅⟩ selfV fun V rV => ?_
  cases rV
  refine xset_next (Y.D.X.keeps X₅.F.keep) ⟨(k₅ e ed).trans a₄, rfl, rfl, b₅⟩ rfl KX.mro KX.dict KX.seta KX.text rfl rfl (Nat.le_of_ble_eq_true rfl) fun h₆ b₆ k₆ z₆ => ?_
  obtain ⟨hid₆, X₆, _⟩ := RepX.turn (ns := ⟨(e, { excObj 31 t with dict := some s₃.heap.objs.size }) :: H, pen⟩) X₅ (tk := s₃.toks + 2 + 2 + 2) (fun b o hb ho => (k₆ b hb).trans ho) b₆ dictNotTab offD
  exact wpAny_execs_nil (q _ _ _ _ _ ⟨u₁, rfl⟩ ⟨u₂, rfl⟩ (Ne.symm ed) (fun p hp => offD p (List.mem_cons_of_mem _ hp)) rfl X₆)

theorem init28 {e t : Addr} {c f : Int} {x : Str} {tc tf tx : Tok} {C : Result → Shared → Prop} (KX : KX Y.K) (hc : c.natAbs ≤ 1000) (hx : x.length ≤ 1000) (G : Y.Gd cx fr 0 ρ) (hdep : cx.A.depth + 1 + 2 * 0 ≤ 980) (huni : cx.A.units + 3 + 20 * 0 ≤ 9500) (hfn : fr.fn = true)
    {H : Hid} (hH : Y.ns = ⟨(e, excObj 31 t) :: H, Y.ns.pen⟩) (off : ∀ p ∈ H, p.1 ≠ e) (R : Y.Rp cx st ρ s)
    (k : ∀ t' dx es n s', (∃ u, getL "code" es = some (some (.int c u))) → (∃ u, getL "frame_type" es = some (some (.int f u))) → dx ≠ e → (∀ p ∈ H, p.1 ≠ dx) →
      (Y.at' ((dx, dictOf es n) :: (e, { excObj 31 t' with dict := some dx }) :: H)).Rp cx st ρ s' → C (.ok (.ret .none)) s') :
    codeAny (model Y.prog Y.w) cx.A (.call (.ref 28) ⟨[.ref e, .int c tc, .int f tf, .str x tx], []⟩) C s := by
  refine fn_enter (n := 0) (vs := [.fn e, .int c, .int f, .str x]) (bs := initLoc e c f x) KX.fn (tab_none (by kernel_rfl)) G hdep huni hfn R (by kernel_rfl) (.cons (.fn e) (.cons (.int _ _) (.cons (.int _ _) (.cons (.str _ _) .nil)))) fun env' L' ρ₂ s₂ ext W G₂ below R₂ => ?_
  rw [show newCells (initLoc e c f x) (cellNames fn28.names) = [] from by kernel_rfl, app_eq, List.append_nil, show bindLoc fn28.names (initLoc e c f x) = (initLoc e c f x) from by kernel_rfl] at R₂
  have selfV : ∀ led, evName ⟨fn28.qual, fn28.names, (number (cellNames fn28.names) (len st.led)).reverse, fn28.tab, true⟩ ⟨led, initLoc e c f x⟩ ("self" : Str) = some (.fn e) := fun led => by kernel_rfl
  have codeV : ∀ led, evName ⟨fn28.qual, fn28.names, (number (cellNames fn28.names) (len st.led)).reverse, fn28.tab, true⟩ ⟨led, initLoc e c f x⟩ ("code" : Str) = some (.int c) := fun led => by kernel_rfl
  have frameV : ∀ led, evName ⟨fn28.qual, fn28.names, (number (cellNames fn28.names) (len st.led)).reverse, fn28.tab, true⟩ ⟨led, initLoc e c f x⟩ ("frame_type" : Str) = some (.int f) := fun led => by kernel_rfl
  have textV : ∀ led, evName ⟨fn28.qual, fn28.names, (number (cellNames fn28.names) (len st.led)).reverse, fn28.tab, true⟩ ⟨led, initLoc e c f x⟩ ("text" : Str) = some (.str x) := fun led => by kernel_rfl
  have excN : ∀ {A : Around} {pos : Pos} {s : Shared} {led : List O} {Q : Value → Shared → Prop} {E : Value → Shared → Prop}, Y.Rp (cx.enter st.loc env' L') ⟨led, initLoc e c f x⟩ ρ₂ s → Q (.type "Exception") s → Y.wp A (eval (.Name "Exception" pos) env') Q E s :=
    fun {A pos s led Q E} R q => built_go G₂ R (by kernel_rfl) KX.exc (by kernel_rfl) (by decide +kernel) (by decide +kernel) q
  have strN : ∀ {A : Around} {pos : Pos} {s : Shared} {led : List O} {Q : Value → Shared → Prop} {E : Value → Shared → Prop}, Y.Rp (cx.enter st.loc env' L') ⟨led, initLoc e c f x⟩ ρ₂ s → Q (.type "str") s → Y.wp A (eval (.Name "str" pos) env') Q E s :=
    fun {A pos s led Q E} R q => built_go G₂ R (by kernel_rfl) KX.str (by kernel_rfl) (by decide +kernel) (by decide +kernel) q
  -- Exception.__init__(self, str(code) + ": " + text)
  show wpAny _ _ (execs (.Expr (.Call (.Attribute (.Name "Exception" _) "__init__" _) [.Name "self" _, .BinOp (.BinOp (.Call (.Name "str" _) [.Name "code" _] [] _) .Add (.Constant (.str ": ") _ _) _) .Add (.Name "text" _) _] [] _) _ ::
    .Assign [.Attribute (.Name "self" _) "code" _] (.Name "code" _) _ :: .Assign [.Attribute (.Name "self" _) "frame_type" _] (.Name "frame_type" _) _ :: .Assign [.Attribute (.Name "self" _) "text" _] (.Name "text" _) _ :: []) env') _ _ _
  refine wpAny_execs_cons (wpAny_Expr_any ?_ (kind_not G₂) (comp_no rfl _ _ _))
  refine MethCall ?_ ?_ ?_ (excN R₂ fun pl => ?_)
  · rfl
  · decide
  · rfl
  obtain ⟨objs, fo, hid, m, X⟩ := id R₂
  show wpAny (model Y.prog Y.w) _ (getMethod (.type "Exception") "__init__" pl) _ _ _
  refine excMethod X.F Y.D.X KX.init ?_
  have R₃ : ∀ tk, Y.Rp (cx.enter st.loc env' L') ⟨st.led, initLoc e c f x⟩ ρ₂ { s₂ with toks := tk } := fun tk => R₂.tok tk
  refine callWith_method1 (id := "Exception.__init__") (first := []) (spliced_more (name_go Y.D G₂ (R₃ _) (selfV _) fun V rV => ?_))
  cases rV
  refine spliced_more (wpAny_BinOp (wpAny_BinOp (Call_ (strN (R₃ _) ?_)))) 
  refine PyProof.Rows.callWith_type rfl (evalArgs_plain (spliced_more (name_go Y.D G₂ (R₃ _) (codeV _) fun V rV => ?_)))
  cases rV
  refine spliced_none (P.str_of_int ?_ (Constant_str (PyProof.Rows.add_str (fun t' tk => name_go Y.D G₂ (R₃ _) (textV _) fun V rV => ?_) ?_)))
  · exact Nat.lt_of_le_of_lt (Nat.log2_le_self _) (by omega)
  · cases rV
    refine PyProof.Rows.add_str (fun t' tk => spliced_none ?_) ?_
    · obtain ⟨nm, q, bs, sn, sub, ab, col, dd, k0, k1, k2, k3, k5, hcls⟩ := KX.cls
      refine exc_init (C := 31) (t := t) (Y.D.X.keeps X.F.keep _ _ hcls) ?_ fun h₃ t₃ he₃ keep₃ => ?_
      · exact (X.N _ (X.hidMem (X.old _ (by rw [hH]; exact List.mem_cons_self)))).1
      have X₀ : RepX ⟨(e, excObj 31 t) :: (⟨H, Y.ns.pen⟩ : Par).hid, (⟨H, Y.ns.pen⟩ : Par).pen⟩ Y.S₀ Y.B (cx.enter st.loc env' L') ⟨st.led, initLoc e c f x⟩ ρ₂ s₂ objs fo hid m := by
        rw [hH] at X; exact X
      obtain ⟨hid₃, X₃, _⟩ := X₀.turn (tk := tk) keep₃ he₃ excNotTab off
      have hρ : ρ₂ = ρ := by
        obtain ⟨τ, e⟩ := ext
        obtain ⟨_, _, _, _, Xa⟩ := id R
        have h1 := Xa.count
        have h2 : st.led.length = ρ₂.length := X.count
        rw [e, List.length_append] at h2
        have : τ = [] := List.length_eq_zero_iff.mp (by omega)
        rw [e, this, List.append_nil]
      refine stores KX G₂ off X₃ (codeV _) (frameV _) (selfV _) (textV _) fun dx es n hid' s' c1 f1 hd offd _ X₆ => ?_
      refine k t₃ dx es n s' c1 f1 hd offd ?_
      have z := X₆.ret below
      rw [hρ] at z
      exact z
    · have h1 := text_small hc
      have h2 : (Str.ofString ": ").length = 2 := by decide +kernel
      rw [Str.length_append, h2, sizeLine_eq]
      omega
  · have h1 := text_small hc
    have h2 : (Str.ofString ": ").length = 2 := by decide +kernel
    rw [h2, sizeLine_eq]
    omega
end
end Sys
end Mine
end

section
open PySem PySem.W PyProof.Rows PySem.Calls
set_option autoImplicit false
set_option maxRecDepth 100000
namespace Mine
section
variable {M : Model} {A : Around} {E : Value → Shared → Prop} {s : Shared} {env : Env}
variable {nm q : Str} {C N : Addr} {bs bm : List Value} {hdct : Bool} {sn : List Str} {sub : List Value} {ab : Bool} {col : Option Bool} {dd : Option Addr} {k0 k1 k2 k3 k5 : Option Value} {newId : String}
theorem raise_tail {x : Sem Value} {Q : Flow → Shared → Prop} (hh : A.handled = none)
    (h : wpAny M A x (fun v s₁ => ∃ e t dx, v = .ref e ∧ s₁.heap.get? C = some (excClassObj nm q C N bs bmE hdct sn sub ab col dd k0 k1 k2 k3 k5 newId) ∧
      s₁.heap.get? e = some { excObj C t with dict := some dx } ∧ E (.ref e) s₁) E s) :
    wpAny M A (raiseStmt env (some x) none) Q E s := by
  have hcB : (Value.ref C :: bmE).contains (.type "BaseException") = true := by rw [List.contains_cons]; rfl
  unfold raiseStmt
  refine wpAny_bind (wpAny_mono h (fun v s₁ h₁ => ?_) fun _ _ x => x)
  obtain ⟨e, t, dx, rfl, hC, he, hE⟩ := h₁
  unfold excObj at he
  obtain ⟨hp, g, d, tk, os⟩ := s₁
  repeat (first | with_reducible refine wpAny_loadPart_at he ?_ | with_reducible refine wpAny_loadPart_at hC ?_ | (with_reducible refine wpAny_isSubtype_exc hC ?_; rw [hcB]) | wp_step)
  exact wpAny_raiseNew_none hh hE
end
namespace Sys
variable {Y : Sys}
theorem raise_ok (KX : KX Y.K) : Y.RaiseOk := by
  intro n r cx fr st st' ρ s q a b x k qp kp cp pos f Q E hx ha hb S h G R qq
  unfold exRaise at h
  split at h
  case h_2 => cases h
  rename_i hfn
  split at h
  case h_2 => cases h
  rename_i h1
  split at h
  case h_2 => cases h
  rename_i c st₁ h2
  split at h
  case h_2 => cases h
  rename_i f' st₂ h3
  split at h
  case h_2 => cases h
  rename_i hc
  cases h
  have hc := Nat.le_of_ble_eq_true hc
  have hx : x.length ≤ 1000 := small_le hx
  obtain ⟨nm, qn, bs, sn, sub, ab, col, dd, k0, k1, k2, k3, k5, hcls⟩ := KX.cls
  rw [arm_exec_Raise]
  refine wpAny_bind (wpAny_standAt (raise_tail (C := 31) (N := 30) (nm := nm) (q := qn) (bs := bs) (hdct := true) (sn := sn) (sub := sub) (ab := ab) (col := col) (dd := dd) (k0 := k0) (k1 := k1) (k2 := k2) (k3 := k3) (k5 := k5) (newId := "Exception.__new__") G.hand (wpAny_bind (wpAny_mono (Q := fun v s₁ => ∃ e t dx, v = .ref e ∧ s₁.heap.get? 31 = some (excClassObj nm qn 31 30 bs bmE true sn sub ab col dd k0 k1 k2 k3 k5 "Exception.__new__") ∧
      s₁.heap.get? e = some { excObj 31 t with dict := some dx } ∧ E (.ref e) s₁) ?_ (fun v s₃ h₃ => wpAny_bind (wpAny_standAt (wpAny_pure h₃))) fun _ _ x => x))))
  refine Call_ (name_go Y.D G R h1 fun F rf => ?_)
  cases rf
  have hs : starEach [a, b, .Constant (.str x) k kp] cx.env = (false, eval a cx.env) :: starEach [b, .Constant (.str x) k kp] cx.env := starEach_cons ha
  have hs2 : starEach [b, .Constant (.str x) k kp] cx.env = (false, eval b cx.env) :: starEach [.Constant (.str x) k kp] cx.env := starEach_cons hb
  have hp : (backTo cp (starEach [b, .Constant (.str x) k kp] cx.env)).any (·.1) = false := by rw [hs2]; rfl
  refine callWith_K (first := []) Y.D.X KX.keep31 (spliced_more (S.v h2 G.down R fun ρ₁ V₁ s₁ x₁ r₁ R₁ G₁ => spliced_more (S.v h3 G₁ R₁ fun ρ₂ V₂ s₂ x₂ r₂ R₂ G₂ => spliced_more (Constant_str (spliced_none ?_)) rfl) hs2) hs) hs hp
  cases r₁ with | int _ u₁ =>
  cases r₂ with | int _ u₂ =>
  obtain ⟨objs, fo, hid, m, X⟩ := R₂
  have hK := Y.D.X.keeps X.F.keep
  refine ⟨hK, ?_⟩
  obtain ⟨oc, od, ens, ep, sl, hns, hsk, hini⟩ := KX.ns
  obtain ⟨o28, ho28, hc28⟩ := KX.isfn
  obtain ⟨hh, g, d, tk, os⟩ := s₂
  refine wpAny_call_exc_init PySem.F.excBase_Exception (mN := fun y => nsFind ens y) (hK _ _ hcls) ⟨_, ens, ep, hK _ _ hns, rfl, hsk, fun _ => rfl⟩ hini (hK _ _ ho28) hc28 (fun h' e hm => ?_) (hrest := by rw [sizeLine_eq]; show 3 ≤ _; decide)
  obtain ⟨t, he, _, _⟩ := hm.there
  have off : ∀ p ∈ newsOf fo hid ρ₂ objs, p.1 ≠ e := fun p hp z => by
    have := (X.N p hp).1
    rw [z] at this
    exact absurd (this.symm.trans hm.new) (by simp)
  have eL : e ≠ cx.L := fun z => by
    obtain ⟨oL, _, _, hL, _⟩ := X.F.ns
    rw [← z] at hL
    exact absurd (hL.symm.trans hm.new) (by simp)
  have eB : Y.B.get? e = none := by
    cases hq : Y.B.get? e with
    | none => rfl
    | some o => exact absurd ((X.F.keep _ _ hq).symm.trans hm.new) (by simp)
  have X₁ := X.hideN (a := e) (o := excObj 31 t) (h' := h') (tk := tk + 1) (fr_grown X.F e eL eB fun b o _ hb => hm.keeps b o hb) (fun p hp => by
    rcases List.mem_cons.mp hp with rfl | hp
    · exact ⟨he, eL, eB⟩
    · exact ⟨hm.keeps _ _ (X.N p hp).1, (X.N p hp).2⟩) off
  have offH : ∀ p ∈ Y.ns.hid, p.1 ≠ e := fun p hp => off p (X.hidMem (X.old p hp))
  refine wpAny_call (init28 (Y := Y.at' ((e, excObj 31 t) :: Y.ns.hid)) (cx := { cx with A := cx.A.under (.builtin "type.__call__" ⟨.ref 31 :: [.int c u₁, .int f' u₂, .str x tk], []⟩) }) (fr := fr) (st := st') (ρ := ρ₂) (e := e) (t := t) (c := c) (f := f') (x := x) (H := Y.ns.hid)
    KX hc hx ?_ ?_ ?_ hfn rfl offH ⟨_, _, _, _, X₁.around rfl rfl rfl⟩ fun t' dx es nn s' c1 f1 hd offd R' => ?_)
  · have Fo := G₂.fn
    refine ⟨G₂.kind, G₂.names, G₂.loc, G₂.glo, G₂.bui, G₂.cells, ?_, ?_, G₂.hand, fun hf => ⟨(Fo hf).frames, (Fo hf).frame, (Fo hf).qual, (Fo hf).outer, (Fo hf).kinds, (Fo hf).tab⟩, G₂.pre⟩
    · have := G.dep
      show cx.A.depth + 1 + 2 * 0 ≤ 980
      omega
    · have := G.uni
      show cx.A.units + 1 + 20 * 0 ≤ 9500
      omega
  · have := G.dep
    show cx.A.depth + 1 + 1 + 2 * 0 ≤ 980
    omega
  · have := G.uni
    show cx.A.units + 1 + 3 + 20 * 0 ≤ 9500
    omega
  obtain ⟨objs', fo', hid', m', X'⟩ := R'
  have offD : ∀ p ∈ (⟨(e, { excObj 31 t' with dict := some dx }) :: Y.ns.hid, Y.ns.pen⟩ : Par).hid, p.1 ≠ dx := fun p hp => by
    rcases List.mem_cons.mp hp with rfl | hp
    · exact Ne.symm hd
    · exact offd p hp
  obtain ⟨a1, a2, a3, hid₂, X₂, a4, a5⟩ := RepX.drop (ns := ⟨(e, { excObj 31 t' with dict := some dx }) :: Y.ns.hid, Y.ns.pen⟩) X' dictNotTab offD
  obtain ⟨b1, b2, b3, hid₃, X₃, b4, b5⟩ := RepX.drop (ns := Y.ns) X₂ excNotTab offH
  refine ⟨rfl, e, t', dx, rfl, Y.D.X.keeps X₃.F.keep _ _ hcls, b1, qq ρ₂ (.ref e) s' (x₁.trans x₂) ⟨e, objs', fo', hid₃, m', none, rfl, X₃.around rfl rfl rfl, ⟨dx, _, _, es, nn, ⟨b1, rfl, rfl, rfl, Nat.lt_of_sub_ne_zero (by show (6 - 1 : Nat) ≠ 0; decide), a1, c1, f1, b2, b4, a2, fun p hp => ?_, b3, a3⟩, rfl⟩, .inl rfl⟩⟩
  rcases List.mem_append.mp hp with hp | hp
  · exact a4 p (List.mem_append_left _ hp)
  · rcases List.mem_append.mp hp with hp | hp
    · exact a4 p (List.mem_append_right _ (List.mem_append_left _ (b5 p hp)))
    · exact a4 p (List.mem_append_right _ (List.mem_append_right _ hp))
end Sys
end Mine
end

section
open PySem PySem.W PyProof.Rows PySem.Calls
set_option autoImplicit false
set_option maxRecDepth 100000
namespace Mine
theorem updL_inv {d : Addr} {o o' : Obj} {p : Addr × Obj} : ∀ {l : Hid}, (l.map (·.1)).Nodup → (d, o) ∈ l → p ∈ updL d o' l → p = (d, o') ∨ (p ∈ l ∧ p.1 ≠ d)
  | [], _, h, _ => nomatch h
  | q :: r, nd, hm, hp => by
    rw [List.map_cons, List.nodup_cons] at nd
    unfold updL at hp
    by_cases e : q.1 = d
    · rw [if_pos e] at hp
      rcases List.mem_cons.mp hp with rfl | hp
      · exact .inl rfl
      · exact .inr ⟨List.mem_cons_of_mem _ hp, fun z => nd.1 (List.mem_map.mpr ⟨p, hp, by rw [z, e]⟩)⟩
    · rw [if_neg e] at hp
      rcases List.mem_cons.mp hp with rfl | hp
      · exact .inr ⟨List.mem_cons_self, e⟩
      · rcases List.mem_cons.mp hm with rfl | hm
        · exact absurd rfl e
        · rcases updL_inv nd.2 hm hp with h | ⟨h, h'⟩
          · exact .inl h
          · exact .inr ⟨List.mem_cons_of_mem _ h, h'⟩
theorem news_updE {B : Heap} {L d : Addr} {h h' : Heap} {o o' : Obj} {news : Hid} (N : News B L h news) (nd : (news.map (·.1)).Nodup) (hm : (d, o) ∈ news) (hs : Heap.ExtBut d h h') (ho : h'.get? d = some o') : News B L h' (updL d o' news) := fun p hp => by
  rcases updL_inv nd hm hp with rfl | ⟨h1, h2⟩
  · exact ⟨ho, (N _ hm).2⟩
  · exact ⟨hs _ _ h2 (N p h1).1, (N p h1).2⟩
theorem set_same {α : Type} : ∀ {l : List α} {k : Nat} {x : α}, l[k]? = some x → l.set k x = l
  | [], _, _, h => by cases h
  | y :: l, 0, x, h => by cases h; rfl
  | y :: l, k + 1, x, h => by
    show y :: l.set k x = y :: l
    rw [set_same (l := l) h]
section
variable {ns : Par} {S₀ : Shared} {B : Heap} {cx : Cx} {st : St} {ρ : List Addr} {s : Shared} {objs : List Obj} {fo hid : Hid} {m : Str → Option Value} {d : Addr} {o : Obj}
/-- an object of the ledger turned, a new hidden one besides -/
theorem RepX.updHide (X : RepX ns S₀ B cx st ρ s objs fo hid m) {h' : Heap} {tk : Nat} {k : Nat} {d a : Addr} {o' oa : Obj} {x : O} (hk : ρ[k]? = some d) (F : Fr B cx.L h' m) (N : News B cx.L h' ((a, oa) :: updL d o' (newsOf fo hid ρ objs))) (ha : ∀ p ∈ newsOf fo hid ρ objs, p.1 < a)
    (ok : OR ns ((a, oa) :: hid) ρ x o') : RepX ⟨(a, oa) :: ns.hid, ns.pen⟩ S₀ B cx ⟨st.led.set k x, st.loc⟩ ρ { s with heap := h', toks := tk } (objs.set k o') fo ((a, oa) :: hid) m := by
  rw [X.updNews hk] at N
  have ek : (newsOf fo hid ρ (objs.set k o')).map (·.1) = (newsOf fo hid ρ objs).map (·.1) := by rw [← X.updNews hk, updL_keys]
  refine ⟨F, fun p hp => N p ?_, ?_, by rw [List.length_set, X.len], A2.mono ?_ fun _ _ r => OR.re (ns := ns) (ns' := ⟨(a, oa) :: ns.hid, ns.pen⟩) rfl r, X.fas, X.stk, X.loc, X.sh, fun p hp => ?_⟩
  · rcases List.mem_append.mp hp with hp | hp
    · exact List.mem_cons_of_mem _ (List.mem_append_left _ hp)
    · rcases List.mem_cons.mp hp with rfl | hp
      · exact List.mem_cons_self
      · exact List.mem_cons_of_mem _ (List.mem_append_right _ hp)
  · show ((fo ++ ((a, oa) :: (hid ++ ρ.zip (objs.set k o')))).map (·.1)).Nodup
    rw [List.map_append, List.map_cons, List.perm_middle.nodup_iff, ← List.map_append, List.nodup_cons]
    have e2 : (fo ++ (hid ++ ρ.zip (objs.set k o'))).map (·.1) = (newsOf fo hid ρ objs).map (·.1) := ek
    rw [e2]
    refine ⟨fun hm => ?_, X.nd⟩
    obtain ⟨p, hp, e⟩ := List.mem_map.mp hm
    exact absurd (ha p hp) (by rw [e]; exact Nat.lt_irrefl _)
  · refine A2.set (X.led.mono fun _ _ r => ?_) ok
    have := r.grow (hid' := (a, oa) :: hid) [] (fun p hp => List.mem_cons_of_mem _ hp)
    rwa [List.append_nil] at this
  · rcases List.mem_cons.mp hp with rfl | hp
    · exact List.mem_cons_self
    · exact List.mem_cons_of_mem _ (X.old p hp)
end
theorem noPars_eq {ps : Arguments} (h : noPars ps = true) : ps = ⟨[], [], none, [], [], none, []⟩ := by
  unfold noPars at h
  split at h
  · rfl
  · cases h
namespace Sys
variable {Y : Sys}
section
variable {n : Nat} {cx : Cx} {fr : FI} {st st' st₁ : St} {ρ : List Addr} {s : Shared} {E : Value → Shared → Prop}

/-- a lambda made: the function's object and its code's go to the hidden ones -/
theorem lam_go {ps : Arguments} {body : Expr} {sc : Scope} {pos : Pos} {t l c : Nat} {q : Str} {cells : List (Str × Nat)} {Q : Value → Shared → Prop} (G : Y.Gd cx fr n ρ) (R : Y.Rp cx st ρ s) (ht : fr.tab = some t) (hl : lamCells fr sc = some cells) (hled : st.led[t]? = some (.tab l c q))
    (hok : toldOk fr ps sc pos l c q = true)
    (k : ∀ f c' oc vs tk cl pm ctv s', oc.data = .fields vs → vs[1]? = some (.str q tk) → A2 (CellR ρ) cl cells → (Y.at' ((f, kla_obj "<lambda>" q ps body sc cl pm c' ctv) :: (c', oc) :: Y.ns.hid)).Rp cx st ρ s' → Q (.ref f) s') :
    Y.wp cx.A (eval (.Lambda ps body sc pos) cx.env) Q E s := by
  unfold toldOk at hok
  simp only [Bool.and_eq_true] at hok
  obtain ⟨⟨⟨⟨⟨hfn, hl1⟩, hc1⟩, hnp⟩, hsc⟩, hq⟩ := hok
  have hl1 := Nat.eq_of_beq_eq_true hl1
  have hc1 := Nat.eq_of_beq_eq_true hc1
  have hps := noPars_eq hnp
  have hq := eqS_true hq
  obtain ⟨cv, P, hcode, C, hP⟩ := (G.fn hfn).tab t ht
  obtain ⟨cl, hcl, rcl⟩ := closure_go G hl
  obtain ⟨objs, fo, hid, m, X⟩ := R
  obtain ⟨o, hoi, hor, hot⟩ := X.at hled hP
  have hgs := Y.D.T.g.keeps X.F.keep
  obtain ⟨bm, ob, b1, b2, b3, b4, b5, b6⟩ := Y.D.T.bmain
  have hqual : cx.env.qual ++ "<lambda>" = q := by rw [(G.fn hfn).qual, hq]
  refine kla_eval (by rw [hps]; rfl) ?_
  rw [hqual]
  have zP := X.N _ (X.mem hP hoi)
  have hbG : bm ≠ mainGlobals := fun q => by
    obtain ⟨o, es, ep, e, hd, _⟩ := Y.D.T.g
    rw [q, e] at b3; cases b3; rw [hd] at b6; cases b6
  cases hor with
  | tab0 =>
    have hgP : mainGlobals ≠ P := fun q => by
      obtain ⟨o, es, ep, e, hd, _⟩ := hgs
      rw [q, hot] at e; cases e; cases hd
    have hbP : bm ≠ P := fun q => by
      have e := X.F.keep _ _ b3
      rw [q, hot] at e; cases e; cases b4
    refine kla_makeFunction (mg := Y.mg) hcl G.glo hgs hcode (C.keeps X.F.keep) hot trivial rfl hgP ⟨bm, ob, b1, b2, hbG, hbP, X.F.keep _ _ b3, b4, b5, b6⟩ fun c' ctv h' tk hx hge hlt hrec htb => ?_
    obtain ⟨c₂, oc, vs, tt, e2, hoc, hd, hv⟩ := hrec
    cases e2
    have X₁ := X.updHide (tk := tk) (h' := h') (a := c') (oa := oc) (x := .tab l c q) hP (fr_grown X.F P zP.2.1 zP.2.2 hx) (fun p hp => by
      rcases List.mem_cons.mp hp with rfl | hp
      · exact ⟨hoc, fun z => absurd X.F.ns.lt (by rw [← z]; exact Nat.not_lt.mpr hge), none_at (Nat.le_trans X.F.above (Nat.le_trans (Nat.le_of_lt X.F.ns.lt) hge))⟩
      · exact news_updE X.N X.nd (X.mem hP hoi) hx htb p hp) (fun p hp => Nat.lt_of_lt_of_le (X.lt p hp) hge) (by
        rw [← hl1, ← hc1]
        exact .tab1 List.mem_cons_self hd hv)
    rw [set_same hled] at X₁
    have X₂ := X₁.hide (tk := tk) (X₁.F.push (kla_obj "<lambda>" q ps body sc cl ((Y.mg "__name__").getD .none) c' ctv)) (X₁.N.push X₁.F _) X₁.lt
    exact k _ c' oc vs tt cl _ ctv _ hd hv rcl ⟨_, _, _, _, X₂⟩
  | @tab1 _ _ _ c' oc vs tt a b e =>
    have hbP : bm ≠ P := fun q => by
      have e := X.F.keep _ _ b3
      rw [q, hot] at e; cases e; cases b4
    refine kla_makeFunctionHit (mg := Y.mg) (cv := .ref c') hcl G.glo hgs hcode (C.keeps X.F.keep) hot trivial (by
      show (if ((l : Int) == (pos.line : Int) && (c : Int) == (pos.col : Int)) = true then some (Value.ref c') else _) = _
      rw [hl1, hc1]
      simp) ⟨bm, ob, b1, b2, hbG, hbP, X.F.keep _ _ b3, b4, b5, b6⟩ fun ctv h' tk hk hsz => ?_
    have X₁ := X.re (tk := tk) (h' := h') ⟨X.F.ns.keeps hk, fun b o e => hk b o (X.F.keep b o e), X.F.above⟩ fun p hp => ⟨hk _ _ (X.N p hp).1, (X.N p hp).2⟩
    have X₂ := X₁.hide (tk := tk) (X₁.F.push (kla_obj "<lambda>" q ps body sc cl ((Y.mg "__name__").getD .none) c' ctv)) (X₁.N.push X₁.F _) X₁.lt
    exact k _ c' oc vs tt cl _ ctv _ b e rcl ⟨_, _, _, _, X₂.par (ns' := ⟨_ :: (c', oc) :: Y.ns.hid, Y.ns.pen⟩) rfl fun p hp => by
      rcases List.mem_cons.mp hp with rfl | hp
      · exact List.mem_cons_self
      · rcases List.mem_cons.mp hp with rfl | hp
        · exact List.mem_cons_of_mem _ a
        · exact List.mem_cons_of_mem _ (X.old p hp)⟩
end
end Sys
end Mine
end

section
open PySem PySem.W PyProof.Rows PySem.Calls
set_option autoImplicit false
set_option maxRecDepth 100000
namespace Mine
namespace Sys
variable {Y : Sys}
section
variable {n k : Nat} {r : Rec} {cx : Cx} {fr : FI} {st st' st₁ : St} {ρ : List Addr} {s : Shared} {E : Value → Shared → Prop}

/-- a lambda called -/
theorem lam_call (S : Y.Snd n r) {fa c' : Addr} {oc : Obj} {vs : Array Value} {tk : Tok} {q : Str} {ps : Arguments} {body : Expr} {sc : Scope} {cl : List (Str × Addr)} {cells : List (Str × Nat)} {pm ctv : Value} {res : Res} {C : Result → Shared → Prop}
    (hf : (fa, kla_obj "<lambda>" q ps body sc cl pm c' ctv) ∈ Y.ns.hid) (hoc : (c', oc) ∈ Y.ns.hid) (hd : oc.data = .fields vs) (hv : vs[1]? = some (.str q tk)) (rcl : A2 (CellR ρ) cl cells) (hnp : noPars ps = true) (hsc : okScope sc = true)
    (G : Y.Gd cx fr k ρ) (hdep : cx.A.depth + 1 + 2 * n ≤ 980) (huni : cx.A.units + 3 + 20 * n ≤ 9500) (hfn : fr.fn = true) (above : Y.B.objs.size ≤ cx.L)
    (R : Y.Rp cx st ρ s) (h : r.ev ⟨q, sc.names, cells, none, true⟩ body ⟨st.led, []⟩ = some (res, st₁)) (k : Y.Ans cx res ⟨st₁.led, st.loc⟩ ρ (fun v s' => C (.ok (.ret v)) s') (fun e s' => C (.error e) s')) :
    codeAny (model Y.prog Y.w) cx.A (.call (.ref fa) ⟨[], []⟩) C s := by
  unfold okScope at hsc
  simp only [Bool.and_eq_true] at hsc
  obtain ⟨⟨⟨hs1, hs2⟩, hs3⟩, hs4⟩ := hsc
  have hkind : sc.kind = .function := by
    revert hs3
    cases sc.kind <;> intro h <;> first | rfl | cases h
  obtain ⟨objs, fo, hid, m, X⟩ := R
  have hroom : cx.A.depth < recursionLimit := by
    have : recursionLimit = 1000 := by decide
    omega
  have hps := noPars_eq hnp
  refine kla_callFunE hroom (X.N _ (X.hidMem (X.old _ hf))).1 rfl (by simpa using hs2) (by simpa using hs1) rfl ⟨c', oc, vs, tk, rfl, (X.N _ (X.hidMem (X.old _ hoc))).1, hd, hv⟩ ?_
  rw [show bindArgs (kla_fn "<lambda>" q ps body sc cl pm (.ref c') ctv) ⟨[], []⟩ = pure [] by rw [hps]; rfl]
  refine wpAny_pure (wpAny_newFunctionEnv ?_ (fun y hy => nomatch hy) (fun h₁ hns hsb => ⟨((Y.D.T.nolimit).keeps X.F.keep).fresh _ hsb, ?_⟩) hkind)
  · intro x hx hc
    have := List.all_eq_true.mp hs4 x hx
    rw [hc] at this
    cases this
  · show codeAny _ _ (.expr body (envX q sc s.heap.objs.size fa (.ref c') cl)) _ _
    have hk₁ : ∀ b o, s.heap.get? b = some o → h₁.get? b = some o := fun b o e => hsb.extBut b o (Nat.ne_of_lt (Heap.lt_size e)) (Heap.get?_push_of_some _ e)
    have Fo := G.fn hfn
    obtain ⟨oL, X₁⟩ := X.enter (env := envX q sc s.heap.objs.size fa (.ref c') cl) (tk := s.toks + ([] : List (Str × Value)).length) (l := []) hns hk₁ (fun x v e => by rw [lk_nil] at e; cases e)
    have W : Frs (cx.enter st.loc (envX q sc s.heap.objs.size fa (.ref c') cl) s.heap.objs.size) (cx.A.deeper (envX q sc s.heap.objs.size fa (.ref c') cl)) := by
      refine ⟨Around.frames_deeper Fo.frames, rfl, hkind, ?_, ?_⟩
      · show cx.env.frame :: _ = some cx.L :: _
        rw [Fo.frame, Fo.outer]
      · intro e he
        rcases List.mem_cons.mp he with rfl | he
        · exact G.kind
        · exact Fo.kinds e he
    have G' : Y.Gd (cx.enter st.loc (envX q sc s.heap.objs.size fa (.ref c') cl) s.heap.objs.size) ⟨q, sc.names, cells, none, true⟩ n ρ :=
      ⟨hkind, rfl, rfl, rfl, rfl, rcl, hdep, huni, G.hand, fun _ => ⟨W.frames, W.frame, rfl, W.outer, W.kinds, fun t ht => (by cases ht)⟩, G.pre⟩
    refine kla_codeExpr ?_
    cases res with
    | ok v =>
      refine S.ev (cx.enter st.loc (envX q sc s.heap.objs.size fa (.ref c') cl) s.heap.objs.size) _ body _ (.ok v) st₁ ρ _ _ _ h G' ⟨_, _, _, _, X₁⟩ fun ρ₃ V s₃ x₃ rv₃ R₃ => ?_
      obtain ⟨_, _, _, _, X₃⟩ := R₃
      exact k _ _ _ x₃ rv₃ (X₃.ret above)
    | ex c f =>
      refine S.ev (cx.enter st.loc (envX q sc s.heap.objs.size fa (.ref c') cl) s.heap.objs.size) _ body _ (.ex c f) st₁ ρ _ _ _ h G' ⟨_, _, _, _, X₁⟩ fun ρ₃ V s₃ x₃ R₃ => ?_
      obtain ⟨e, _, _, _, _, fl, rfl, X₃, ex, hfl⟩ := R₃
      refine leave_go W X₃ above ex hfl fun h' objs₄ fo₄ hid₄ m₄ X₄ ex₄ => ?_
      exact k _ _ _ x₃ ⟨e, _, _, _, _, _, rfl, X₄, ex₄, .inr rfl⟩
end
end Sys
end Mine
end

section
open PySem PySem.W PyProof.Rows PySem.Calls
set_option autoImplicit false
set_option maxRecDepth 100000
namespace Mine
noncomputable def fn179 : Fn := match topFn 24 with
  | some F => F
  | none => ⟨"", [], [], [], none⟩
structure KT (K : Frag) : Prop where
  fn : FnK K 179 fn179
  code : findIn K (.ref 31) "code" = some none
  frame : findIn K (.ref 31) "frame_type" = some none
  ga : findIn K (.ref 31) "__getattribute__" = some (some (.builtin "BaseException.__getattribute__"))
  gt : findIn K (.ref 31) "__getattr__" = some none
  base : mroIn K 31 (.type "BaseException") = some true
theorem ExcX.same {B : Heap} {news : Hid} {L e : Addr} {c f : Int} {h h' : Heap} {dx : Addr} {oe : Obj} {vs : Array Value} {es : List DictEntry} {n : Nat} (x : ExcX B news L e c f h dx oe vs es n) (hs : Heap.SameBut L h h') : ExcX B news L e c f h' dx oe vs es n :=
  ⟨(hs.2 _ x.eL).trans x.there, x.cls, x.dict, x.data, x.size, (hs.2 _ x.dL).trans x.dat, x.code, x.frame, x.newE, x.offE, x.newD, x.offD, x.eL, x.dL⟩
noncomputable def workLoc (f : Addr) : Loc := [("work", .fn f)]
namespace Sys
variable {Y : Sys}
section
variable {n : Nat} {r : Rec} {cx : Cx} {fr : FI} {st st' st₁ : St} {ρ : List Addr} {s : Shared}

theorem told_frame (KX : KX Y.K) (KT : KT Y.K) (S : Y.Snd n r) {fa c' : Addr} {oc : Obj} {vs : Array Value} {tk : Tok} {q : Str} {ps : Arguments} {body : Expr} {sc : Scope} {cl : List (Str × Addr)} {cells : List (Str × Nat)} {pm ctv : Value} {res : Res} {Q : Value → Shared → Prop} {E : Value → Shared → Prop}
    (hf : (fa, kla_obj "<lambda>" q ps body sc cl pm c' ctv) ∈ Y.ns.hid) (hoc : (c', oc) ∈ Y.ns.hid) (hd : oc.data = .fields vs) (hv : vs[1]? = some (.str q tk)) (rcl : A2 (CellR ρ) cl cells) (hnp : noPars ps = true) (hsc : okScope sc = true)
    (G : Y.Gd cx fr (n + 1) ρ) (hfn : fr.fn = true) (R : Y.Rp cx st ρ s) (h : toldRun r body sc q cells st = some (res, st')) (k : Y.Ans cx res st' ρ Q E) :
    Y.wp cx.A (call (.ref 179) [.ref fa]) Q E s := by
  refine wpAny_call (fn_enter (n := n) (vs := [.fn fa]) (bs := workLoc fa) KT.fn (tab_none (by kernel_rfl)) G.down (by have := G.dep; omega) (by have := G.uni; omega) hfn R (by kernel_rfl) (.cons (.fn fa) .nil) fun env' L' ρ₂ s₂ ext W G₂ below R₂ => ?_)
  rw [show newCells (workLoc fa) (cellNames fn179.names) = [] from by kernel_rfl, app_eq, List.append_nil, show bindLoc fn179.names (workLoc fa) = workLoc fa from by kernel_rfl] at R₂
  have workV : ∀ led, evName ⟨fn179.qual, fn179.names, (number (cellNames fn179.names) (len st.led)).reverse, fn179.tab, true⟩ ⟨led, workLoc fa⟩ ("work" : Str) = some (.fn fa) := fun led => by kernel_rfl
  show wpAny _ _ (execs (.Try [.Return (some (.Call (.Name "work" _) [] [] _)) _] [.ExceptHandler (some (.Name "QuicError" _)) (some "wrong") [.Return (some (.Tuple [.Attribute (.Name "wrong" _) "code" _, .Attribute (.Name "wrong" _) "frame_type" _] _ _)) _] _] [] [] _ :: []) env') _ _ _
  refine wpAny_execs_cons (wpAny_Try_except (wpAny_execs_cons (wpAny_Return_some (Call_ (name_go Y.D G₂ R₂ (workV _) fun V rV => ?_)))))
  cases rV
  obtain ⟨objs, fo, hid, m, X⟩ := id R₂
  refine callWith_F0 (first := []) (FnAt.of X.N (X.hidMem (X.old _ hf))) ?_
  have rcl₂ : A2 (CellR ρ₂) cl cells := rcl.mono fun _ _ r => ⟨r.1, ext.at r.2⟩
  have hdep₂ : (cx.enter st.loc env' L').A.depth + 1 + 2 * n ≤ 980 := by
    have := G.dep
    show cx.A.depth + 1 + 1 + 2 * n ≤ 980
    omega
  have huni₂ : (cx.enter st.loc env' L').A.units + 3 + 20 * n ≤ 9500 := by
    have := G.uni
    show cx.A.units + 3 + 3 + 20 * n ≤ 9500
    omega
  unfold toldRun at h
  split at h
  · rename_i v st₁ h1
    cases h
    refine wpAny_call (lam_call (st := ⟨st.led, workLoc fa⟩) (res := .ok v) S hf hoc hd hv rcl₂ hnp hsc G₂ hdep₂ huni₂ rfl X.F.above R₂ h1 fun ρ₃ V s₃ x₃ rv₃ R₃ => ?_)
    obtain ⟨_, _, _, _, X₃⟩ := R₃
    exact k _ _ _ (ext.trans x₃) rv₃ (X₃.ret below)
  · rename_i c f st₁ h1
    cases h
    refine wpAny_call (lam_call (st := ⟨st.led, workLoc fa⟩) (res := .ex c f) S hf hoc hd hv rcl₂ hnp hsc G₂ hdep₂ huni₂ rfl X.F.above R₂ h1 fun ρ₃ V s₃ x₃ R₃ => ?_)
    obtain ⟨e, objs₃, fo₃, hid₃, m₃, fl, rfl, X₃, ex, hfl⟩ := R₃
    refine note_go W X₃ ex hfl fun h₄ fo₄ X₄ e₄ ex₄ => flight_go X₄ ex₄ fun h₅ X₅ ex₅ => ?_
    obtain ⟨dx, oe, ws, es, nn, ex₅, _⟩ := ex₅
    obtain ⟨nm, qn, bs, sn, sub, ab, col, dd, k0, k1, k2, k3, k5, hcls⟩ := KX.cls
    have quicV : ∀ led l, evName ⟨fn179.qual, fn179.names, (number (cellNames fn179.names) (len st.led)).reverse, fn179.tab, true⟩ ⟨led, l⟩ ("QuicError" : Str) = some (.fn 31) := fun led l => by kernel_rfl
    have G₃ := G₂.ext x₃
    refine wpAny_handleBy_cons (codeAny_handlers_test (name_go Y.D G₃ ⟨_, _, _, _, X₅⟩ (quicV _ _) fun V rV => ?_)) (fun z => by cases z)
    cases rV
    refine wpAny_excMatches_sub_self (Y.D.X.keeps X₅.F.keep _ _ hcls) ex₅.there ex₅.cls (by rfl) ?_
    refine codeAny_handlers_suite_as (flight_go X₅ ⟨dx, oe, ws, es, nn, ex₅, ‹_›⟩ fun h₆ X₆ ex₆ => ?_)
    obtain ⟨dx, oe, ws, es, nn, ex₆, _⟩ := ex₆
    have hloc : env'.locals = L' := G₂.loc
    have hwr : env'.kindOf ("wrong" : Str) = some .local := by
      have hn : env'.scope.names = fn179.names := G₂.names
      show env'.scope.names.lookup _ = _
      rw [hn]
      kernel_rfl
    have hp : (env'.scope.kind == .class || (env'.scope.kind == .module && env'.locals != env'.globals)) = false := by
      have hk : env'.scope.kind = .function := G₂.kind
      rw [hk]; rfl
    refine wpAny_storeName_local (m := m₃) hwr (by rw [hloc]; exact X₆.F.ns) (fun h₇ hn₇ hs₇ => ?_) hp
    rw [hloc] at hn₇ hs₇
    have X₇ := X₆.locals (tk := s₃.toks + 1) (X₆.F.set hn₇ hs₇) (X₆.N.set hs₇) (X₆.loc.put (.fn e))
    have ex₇ := ex₆.same hs₇
    have wrongV : ∀ led, evName ⟨fn179.qual, fn179.names, (number (cellNames fn179.names) (len st.led)).reverse, fn179.tab, true⟩ ⟨led, put ("wrong" : Str) (.fn e) (workLoc fa)⟩ ("wrong" : Str) = some (.fn e) := fun led => by kernel_rfl
    obtain ⟨u₁, c1⟩ := ex₇.code
    obtain ⟨u₂, f1⟩ := ex₇.frame
    have I₇ : PySem.W.InstAt h₇ e oe 31 (some (dictOf es nn)) := ⟨ex₇.there, ex₇.cls, by unfold notCls; rw [ex₇.data], by rw [ex₇.dict]; exact ex₇.dat⟩
    refine wpAny_execs_cons (wpAny_Return_some (Tuple_ (spliced_more (Attribute_Name_ (name_go Y.D G₃ ⟨_, _, _, _, X₇⟩ (wrongV _) fun V rV => ?_)))))
    cases rV
    refine exc_get (Y.D.X.keeps X₇.F.keep) I₇ KT.ga KT.gt KT.base (findObj_own KX.dict KT.code rfl (by rw [lookIn_dict]; exact c1)) rfl ?_
    refine spliced_more (Attribute_Name_ (name_go Y.D G₃ (Rep.tok ⟨_, _, _, _, X₇⟩ _) (wrongV _) fun V rV => ?_))
    cases rV
    refine exc_get (Y.D.X.keeps X₇.F.keep) I₇ KT.ga KT.gt KT.base (findObj_own KX.dict KT.frame rfl (by rw [lookIn_dict]; exact f1)) rfl ?_
    refine spliced_none (newTuple_go (Rep.tok ⟨_, _, _, _, X₇⟩ _) (.cons (.int _ _) (.cons (.int _ _) .nil)) (by show 2 ≤ 2000; decide) fun ρ₄ V s₄ x₄ r₄ R₄ => ?_)
    obtain ⟨objs₈, fo₈, hid₈, m₈, X₈⟩ := R₄
    refine wpAny_nameGoes (m := m₈) hwr (by rw [hloc]; exact X₈.F.ns) hp fun h₉ m₉ hn₉ hs₉ => ?_
    rw [hloc] at hn₉ hs₉
    have X₉ := X₈.locals (l := []) (tk := s₄.toks + 1) (X₈.F.set hn₉ hs₉) (X₈.N.set hs₉) (fun x v e => by rw [lk_nil] at e; cases e)
    exact k _ _ _ ((ext.trans x₃).trans x₄) r₄ (X₉.ret below)
  · cases h
end
end Sys
end Mine
end

section
open PySem PySem.W PyProof.Rows PySem.Calls
set_option autoImplicit false
set_option maxRecDepth 100000
namespace Mine
namespace Sys
variable {Y : Sys}
theorem told_ok (KX : KX Y.K) (KT : KT Y.K) : Y.ToldOk := by
  intro n r cx fr st st' ρ s f ps body sc pos fp cp res Q E S h G R k
  unfold evTold at h
  split at h
  case h_2 => cases h
  rename_i h1
  split at h
  case h_2 => cases h
  rename_i t ht
  split at h
  case h_2 => cases h
  rename_i cells hl
  rw [nth_eq] at h
  split at h
  case h_2 => cases h
  rename_i l c q hled
  split at h
  case h_2 => cases h
  rename_i hok
  have hok' := hok
  unfold toldOk at hok'
  simp only [Bool.and_eq_true] at hok'
  obtain ⟨⟨⟨⟨⟨hfn, _⟩, _⟩, hnp⟩, hsc⟩, _⟩ := hok'
  refine Call_ (name_go Y.D G R h1 fun F rf => ?_)
  cases rf
  refine callWith_K (first := []) Y.D.X Y.D.kf.keep179 (spliced_more (lam_go G R ht hl hled hok fun fa c' oc vs tk cl pm ctv s₁ hd hv rcl R₁ => spliced_none ⟨?_, ?_⟩) rfl) rfl rfl
  · obtain ⟨_, _, _, _, X⟩ := R₁
    exact Y.D.X.keeps X.F.keep
  · refine told_frame (Y := Y.at' ((fa, kla_obj "<lambda>" q ps body sc cl pm c' ctv) :: (c', oc) :: Y.ns.hid)) KX KT (S _ fun p hp => List.mem_cons_of_mem _ (List.mem_cons_of_mem _ hp)) List.mem_cons_self (List.mem_cons_of_mem _ List.mem_cons_self) hd hv rcl hnp hsc G hfn R₁ h ?_
    have back : ∀ {st : St} {ρ : List Addr} {s : Shared}, (Y.at' ((fa, kla_obj "<lambda>" q ps body sc cl pm c' ctv) :: (c', oc) :: Y.ns.hid)).Rp cx st ρ s → Y.Rp cx st ρ s := fun R => by
      obtain ⟨_, _, _, _, X⟩ := R
      exact ⟨_, _, _, _, X.par rfl fun p hp => X.old p (List.mem_cons_of_mem _ (List.mem_cons_of_mem _ hp))⟩
    cases res with
    | ok v => exact fun ρ' V s' x rv R' => k ρ' V s' x rv (back R')
    | ex c f =>
      refine fun ρ' V s' x R' => k ρ' V s' x ?_
      obtain ⟨e, objs, fo, hid, m, fl, e1, X, ex, hfl⟩ := R'
      exact ⟨e, objs, fo, hid, m, fl, e1, X.par rfl fun p hp => X.old p (List.mem_cons_of_mem _ (List.mem_cons_of_mem _ hp)), ex, hfl⟩
end Sys
end Mine
end

section
open PySem PySem.W PyProof.Rows PySem.Calls
set_option autoImplicit false
set_option maxRecDepth 100000
namespace Mine
/-- all that the run asks of the written part -/
structure KAll (K : Frag) : Prop where
  kx : KX K
  kt : KT K
  f165 : FnK K 165 fn165
  f53 : FnK K 53 fn53
namespace Sys
variable {Y : Sys}
theorem at_PenOk {nums : List Int} {sd : Int} {H : Hid} (P : Y.PenOk nums sd) (hH : ∀ p ∈ Y.ns.hid, p ∈ H) : (Y.at' H).PenOk nums sd :=
  ⟨let ⟨pl, h1, np, pvs, h2, h3⟩ := P.pen; ⟨pl, h1, np, pvs, hH _ h2, h3⟩, P.few⟩
theorem run_orc (orc : Nat → Int → Option Int) : ∀ n, (run orc false n).orc = orc
  | 0 => rfl
  | n + 1 => run_orc orc n
/-- no law's helper told: a run from below -/
theorem run_ok (k : KAll Y.K) {nums : List Int} {sd : Int} (P : Y.PenOk nums sd) {orc : Nat → Int → Option Int} (ho : ∀ c m v, orc c m = some v → v = draw nums sd c m) : ∀ n, Y.SndA n (run orc false n)
  | 0 => bot_ok orc false
  | n + 1 => by
    have S := run_ok k P ho n
    have hr : (run orc false n).pr = false ∧ (run orc false n).orc = orc := by
      clear S
      induction n with
      | zero => exact ⟨rfl, rfl⟩
      | succ n ih => exact ih
    refine step_ok (fun H hH => ⟨told_ok k.kx k.kt, raise_ok k.kx, fun h => ?_, ?_, cov_ok k.f53, sort_ok, new_ok⟩) S
    · have h2 := hr.1.symm.trans h
      cases h2
    · have z : (Y.at' H).NextOk (run orc false n).orc := by
        rw [hr.2]
        exact next_ok k.f165 (at_PenOk P hH) ho
      exact z
noncomputable def runM (orc : Nat → Int → Option Int) (m n : Nat) : Rec := Nat.rec { run orc false m with pr := true } (fun _ ih => step ih) n
theorem runM_orc (orc : Nat → Int → Option Int) (m : Nat) : ∀ n, (runM orc m n).orc = orc
  | 0 => run_orc orc m
  | n + 1 => runM_orc orc m n
/-- the law's own run: n steps above the helpers' -/
theorem runM_ok (k : KAll Y.K) {nums : List Int} {sd : Int} (P : Y.PenOk nums sd) {orc : Nat → Int → Option Int} (ho : ∀ c m v, orc c m = some v → v = draw nums sd c m) (hp : ∀ H, (∀ p ∈ Y.ns.hid, p ∈ H) → (Y.at' H).PrimOk) {m : Nat} (hm : 45 ≤ m) : ∀ n, Y.SndA (m + n) (runM orc m n)
  | 0 => fun H hH => ⟨(run_ok k P ho m H hH).ev, (run_ok k P ho m H hH).ts, (run_ok k P ho m H hH).ex⟩
  | n + 1 => by
    have S := runM_ok k P ho hp hm n
    refine step_ok (n := m + n) (fun H hH => ⟨told_ok k.kx k.kt, raise_ok k.kx, fun _ => ⟨by omega, hp H hH⟩, ?_, cov_ok k.f53, sort_ok, new_ok⟩) S
    have z : (Y.at' H).NextOk (runM orc m n).orc := by
      rw [runM_orc]
      exact next_ok k.f165 (at_PenOk P hH) ho
    exact z
end Sys
end Mine
end

section
open PySem PySem.W PyProof.Rows PySem.Calls
set_option autoImplicit false
set_option maxRecDepth 100000
namespace Mine
/-- a value told without numbers -/
noncomputable def unloc (ρ : List Addr) : V → V
  | .loc k => match ρ[k]? with
    | some a => .fn a
    | none => .none
  | v => v
theorem unloc_to {ρ τ : List Addr} {v : V} {X : Value} (h : VR ρ v X) : VR τ (unloc ρ v) X := by
  cases h with
  | none => exact .none
  | bool b => exact .bool b
  | int i t => exact .int i t
  | str x t => exact .str x t
  | bytes b t => exact .bytes b t
  | @loc k a e =>
    show VR τ (match ρ[k]? with | some a => .fn a | none => .none) _
    rw [e]
    exact .fn a
  | bi b => exact .bi b
  | fn a => exact .fn a
  | any t a b => exact .any t a b
  | anyb b => exact .anyb b
theorem unloc_from {ρ τ : List Addr} {v : V} {X X₀ : Value} (h₀ : VR ρ v X₀) (h : VR τ (unloc ρ v) X) : VR ρ v X := by
  cases h₀ with
  | none => cases h; exact .none
  | bool b => cases h; exact .bool b
  | int i t => cases h; exact .int i _
  | str x t => cases h; exact .str x _
  | bytes b t => cases h; exact .bytes b _
  | @loc k a e =>
    have h : VR τ (match ρ[k]? with | some a => .fn a | none => .none) X := h
    rw [e] at h
    cases h
    exact .loc e
  | bi b => cases h; exact .bi b
  | fn a => cases h; exact .fn a
  | any t a b => cases h; exact .any _ (by assumption) (by assumption)
  | anyb b => cases h; exact .anyb _
noncomputable def unlocs (ρ : List Addr) (l : Loc) : Loc := l.map fun p => (p.1, unloc ρ p.2)
theorem lk_unlocs {ρ : List Addr} {x : Str} : ∀ {l : Loc}, lk (unlocs ρ l) x = (lk l x).map (unloc ρ)
  | [] => rfl
  | p :: l => by
    show lk ((p.1, unloc ρ p.2) :: unlocs ρ l) x = _
    rw [lk_cons, lk_cons]
    cases eqS x p.1 with
    | true => rfl
    | false => exact lk_unlocs (l := l)

theorem locR_to {ρ τ : List Addr} {l : Loc} {m : Str → Option Value} (h : LocR ρ l m) : LocR τ (unlocs ρ l) m := fun x v e => by
  rw [lk_unlocs] at e
  obtain ⟨u, e1, rfl⟩ := Option.map_eq_some_iff.mp e
  obtain ⟨V, e2, e3⟩ := h x u e1
  exact ⟨V, e2, unloc_to e3⟩
theorem locR_from {ρ τ : List Addr} {l : Loc} {m m₀ : Str → Option Value} (h₀ : LocR ρ l m₀) (h : LocR τ (unlocs ρ l) m) : LocR ρ l m := fun x v e => by
  obtain ⟨V₀, _, e3⟩ := h₀ x v e
  obtain ⟨V, e4, e5⟩ := h x (unloc ρ v) (by rw [lk_unlocs, e]; rfl)
  exact ⟨V, e4, unloc_from e3 e5⟩
theorem fR_to {ρ τ : List Addr} {l : Loc} {p : Addr × Obj} (h : FR ρ l p) : FR τ (unlocs ρ l) p := by
  obtain ⟨es, ep, a, b, c⟩ := h
  exact ⟨es, ep, a, b, locR_to (m := fun x => nsFind es x) c⟩
theorem fR_from {ρ τ : List Addr} {l : Loc} {p p₀ : Addr × Obj} (h₀ : FR ρ l p₀) (h : FR τ (unlocs ρ l) p) : FR ρ l p := by
  obtain ⟨es₀, _, _, _, c₀⟩ := h₀
  obtain ⟨es, ep, a, b, c⟩ := h
  exact ⟨es, ep, a, b, locR_from (m₀ := fun x => nsFind es₀ x) (m := fun x => nsFind es x) c₀ c⟩
theorem stk_to {ρ τ : List Addr} : ∀ {stk : List Loc} {fo : Hid}, A2 (FR ρ) stk fo → A2 (FR τ) (stk.map (unlocs ρ)) fo
  | [], _, h => by cases h; exact .nil
  | l :: stk, _, h => by
    cases h with
    | cons r h => exact .cons (fR_to r) (stk_to h)
theorem stk_from {ρ τ : List Addr} : ∀ {stk : List Loc} {fo₀ fo : Hid}, A2 (FR ρ) stk fo₀ → A2 (FR τ) (stk.map (unlocs ρ)) fo → A2 (FR ρ) stk fo
  | [], _, _, _, h => by cases h; exact .nil
  | l :: stk, _, _, h₀, h => by
    cases h₀ with
    | cons r₀ h₀ =>
    cases h with
    | cons r h => exact .cons (fR_from r₀ r) (stk_from h₀ h)
end Mine
end

section
open PySem PySem.W PyProof.Rows PySem.Calls
set_option autoImplicit false
set_option maxRecDepth 100000
namespace Mine
/-- all the ledger's objects but the kept ones -/
noncomputable def rest (keep l : Hid) : Hid := l.filter fun p => !(keep.map (·.1)).contains p.1
theorem zip_maps : ∀ (l : Hid), (l.map (·.1)).zip (l.map (·.2)) = l
  | [] => rfl
  | p :: l => congrArg (p :: ·) (zip_maps l)
section
variable {ns : Par} {S₀ : Shared} {B : Heap} {cx : Cx} {st : St} {ρ : List Addr} {s : Shared} {objs : List Obj} {fo hid : Hid} {m : Str → Option Value}
theorem RepX.shed (X : RepX ns S₀ B cx st ρ s objs fo hid m) {keep : Hid} (hk : ∀ p ∈ keep, p ∈ ρ.zip objs) (hkn : (keep.map (·.1)).Nodup) {led' : List O} (hl : A2 (OR ns (hid ++ rest keep (ρ.zip objs)) (keep.map (·.1))) led' (keep.map (·.2))) :
    RepX ⟨hid ++ rest keep (ρ.zip objs), ns.pen⟩ S₀ B { cx with stk := cx.stk.map (unlocs ρ) } ⟨led', unlocs ρ st.loc⟩ (keep.map (·.1)) s (keep.map (·.2)) fo (hid ++ rest keep (ρ.zip objs)) m := by
  have hn : newsOf fo (hid ++ rest keep (ρ.zip objs)) (keep.map (·.1)) (keep.map (·.2)) = fo ++ ((hid ++ rest keep (ρ.zip objs)) ++ keep) := by
    show fo ++ ((hid ++ rest keep (ρ.zip objs)) ++ (keep.map (·.1)).zip (keep.map (·.2))) = _
    rw [zip_maps]
  have hsub : ∀ p ∈ rest keep (ρ.zip objs), p ∈ ρ.zip objs := fun p hp => (List.mem_filter.mp hp).1
  have nd := X.nd
  rw [show newsOf fo hid ρ objs = fo ++ (hid ++ ρ.zip objs) from rfl, List.map_append, List.map_append] at nd
  have n1 := List.nodup_append.mp nd
  have n2 := List.nodup_append.mp n1.2.1
  refine ⟨X.F, fun p hp => ?_, ?_, by rw [List.length_map, List.length_map], hl.mono fun _ _ r => r.re (ns := ns) rfl, X.fas, stk_to X.stk, locR_to X.loc, X.sh, fun p hp => hp⟩
  · rw [hn] at hp
    refine X.N p ?_
    rcases List.mem_append.mp hp with hp | hp
    · exact List.mem_append_left _ hp
    · refine List.mem_append_right _ ?_
      rcases List.mem_append.mp hp with hp | hp
      · rcases List.mem_append.mp hp with hp | hp
        · exact List.mem_append_left _ hp
        · exact List.mem_append_right _ (hsub p hp)
      · exact List.mem_append_right _ (hk p hp)
  · rw [hn, List.map_append, List.map_append, List.map_append, List.append_assoc]
    have inρ : ∀ a ∈ (rest keep (ρ.zip objs)).map (·.1) ++ keep.map (·.1), a ∈ (ρ.zip objs).map (·.1) := fun a ha => by
      rcases List.mem_append.mp ha with ha | ha
      · obtain ⟨p, hp, rfl⟩ := List.mem_map.mp ha
        exact List.mem_map_of_mem (hsub p hp)
      · obtain ⟨p, hp, rfl⟩ := List.mem_map.mp ha
        exact List.mem_map_of_mem (hk p hp)
    refine List.nodup_append.mpr ⟨n1.1, List.nodup_append.mpr ⟨n2.1, List.nodup_append.mpr ⟨n2.2.1.sublist (List.filter_sublist.map _), hkn, fun a ha b hb e => ?_⟩, fun a ha b hb => n2.2.2 a ha b (inρ b hb)⟩, fun a ha b hb => n1.2.2 a ha b ?_⟩
    · subst e
      obtain ⟨p, hp, rfl⟩ := List.mem_map.mp ha
      have := (List.mem_filter.mp hp).2
      rw [List.contains_iff_mem.mpr hb] at this
      cases this
    · rcases List.mem_append.mp hb with hb | hb
      · exact List.mem_append_left _ hb
      · exact List.mem_append_right _ (inρ b hb)
end
end Mine
end

section
open PySem PySem.W PyProof.Rows PySem.Calls
set_option autoImplicit false
set_option maxRecDepth 100000
namespace Mine
/-- no object of the ledger is a code object -/
theorem OR.notTab {ns : Par} {hid : Hid} {ρ : List Addr} {x : O} {o : Obj} (hp : ∀ c o, ns.pen c o → NotTab o) (h : OR ns hid ρ x o) : NotTab o := by
  intro vs q t e e1
  cases h with
  | list a => cases e
  | tuple a => cases e
  | inst a => cases e
  | dict a b => cases e
  | cell0 a => rw [a] at e; cases e
  | cell a b => rw [b] at e; cases e
  | tab0 => cases e; cases e1
  | tab1 a b c => cases e; cases e1
  | pen a => exact hp _ _ a vs q t e e1
theorem A2.getR {α β : Type} {R : α → β → Prop} {l : List α} {m : List β} (h : A2 R l m) {b : β} (hb : b ∈ m) : ∃ a, R a b := by
  induction h with
  | nil => cases hb
  | cons r _ ih =>
    rcases List.mem_cons.mp hb with rfl | hb
    · exact ⟨_, r⟩
    · exact ih hb
/-- the hidden objects without those that the ledger tells -/
noncomputable def offρ (ρ : List Addr) (hid : Hid) : Hid := hid.filter fun p => !ρ.contains p.1
section
variable {ns : Par} {S₀ : Shared} {B : Heap} {cx : Cx} {st : St} {ρ ρ' : List Addr} {s s' : Shared} {objs objs' objs₁ : List Obj} {fo fo' hid hid' hid₀ : Hid} {m m' : Str → Option Value} {led' : List O}
theorem RepX.ρhid (X : RepX ns S₀ B cx st ρ s objs fo hid m) : ∀ p ∈ hid, p.1 ∉ ρ := fun p hp hm => by
  have h := X.nd
  rw [show newsOf fo hid ρ objs = fo ++ (hid ++ ρ.zip objs) from rfl, List.map_append, List.map_append, List.map_fst_zip (Nat.le_of_eq X.len.symm)] at h
  exact (List.nodup_append.mp (List.nodup_append.mp h).2.1).2.2 p.1 (List.mem_map_of_mem hp) p.1 hm rfl
theorem RepX.ρfo (X : RepX ns S₀ B cx st ρ s objs fo hid m) : ∀ a ∈ cx.fas, a ∉ ρ := fun a ha hm => by
  have h := X.nd
  rw [show newsOf fo hid ρ objs = fo ++ (hid ++ ρ.zip objs) from rfl, List.map_append, List.map_append, List.map_fst_zip (Nat.le_of_eq X.len.symm)] at h
  rw [← X.fas] at ha
  exact (List.nodup_append.mp h).2.2 a ha a (List.mem_append_right _ hm) rfl
theorem RepX.unshed (X : RepX ns S₀ B cx st ρ s objs fo hid m) (hh : ∀ p ∈ hid, p ∈ hid₀)
    (X' : RepX ⟨hid₀, ns.pen⟩ S₀ B { cx with stk := cx.stk.map (unlocs ρ) } ⟨led', unlocs ρ st.loc⟩ ρ' s' objs' fo' hid' m') (hz : ∀ p ∈ ρ.zip objs₁, p ∈ newsOf fo' hid' ρ' objs') (hlen : objs₁.length = ρ.length) (hl : A2 (OR ns (offρ ρ hid') ρ) st.led objs₁) :
    RepX ns S₀ B cx st ρ s' objs₁ fo' (offρ ρ hid') m' := by
  have hsub : ∀ p ∈ offρ ρ hid', p ∈ hid' := fun p hp => (List.mem_filter.mp hp).1
  have nd := X'.nd
  rw [show newsOf fo' hid' ρ' objs' = fo' ++ (hid' ++ ρ'.zip objs') from rfl, List.map_append, List.map_append] at nd
  have n1 := List.nodup_append.mp nd
  have n2 := List.nodup_append.mp n1.2.1
  refine ⟨X'.F, fun p hp => ?_, ?_, hlen, hl, X'.fas, stk_from X.stk X'.stk, locR_from X.loc X'.loc, X'.sh, fun p hp => ?_⟩
  · refine X'.N p ?_
    rcases List.mem_append.mp hp with hp | hp
    · exact List.mem_append_left _ hp
    · rcases List.mem_append.mp hp with hp | hp
      · exact X'.hidMem (hsub p hp)
      · exact hz p hp
  · show ((fo' ++ (offρ ρ hid' ++ ρ.zip objs₁)).map (·.1)).Nodup
    rw [List.map_append, List.map_append, List.map_fst_zip (Nat.le_of_eq hlen.symm)]
    refine List.nodup_append.mpr ⟨n1.1, List.nodup_append.mpr ⟨n2.1.sublist (List.filter_sublist.map _), X.nodup, fun a ha b hb e => ?_⟩, fun a ha b hb e => ?_⟩
    · subst e
      obtain ⟨p, hp, rfl⟩ := List.mem_map.mp ha
      have := (List.mem_filter.mp hp).2
      rw [List.contains_iff_mem.mpr hb] at this
      cases this
    · subst e
      rcases List.mem_append.mp hb with hb | hb
      · obtain ⟨p, hp, e⟩ := List.mem_map.mp hb
        exact n1.2.2 a ha p.1 (List.mem_append_left _ (List.mem_map_of_mem (hsub p hp))) e.symm
      · have ha : a ∈ cx.fas := by
          have := X'.fas
          rw [← this]; exact ha
        exact X.ρfo a ha hb
  · refine List.mem_filter.mpr ⟨X'.old p (hh p (X.old p hp)), ?_⟩
    have := X.ρhid p (X.old p hp)
    rw [List.contains_eq_mem, decide_eq_false this]
    rfl
/-- nothing of the ledger was used -/
theorem RepX.unshed0 (X : RepX ns S₀ B cx st ρ s objs fo hid m)
    (X' : RepX ⟨hid ++ rest [] (ρ.zip objs), ns.pen⟩ S₀ B { cx with stk := cx.stk.map (unlocs ρ) } ⟨led', unlocs ρ st.loc⟩ ρ' s' objs' fo' hid' m') : Rep ns S₀ B cx st ρ s' := by
  have hr : ∀ p ∈ ρ.zip objs, p ∈ hid' := fun p hp => X'.old p (List.mem_append_right _ (List.mem_filter.mpr ⟨hp, rfl⟩))
  refine ⟨objs, _, _, _, X.unshed (fun p hp => List.mem_append_left _ hp) X' (fun p hp => X'.hidMem (hr p hp)) X.len (X.led.mono fun _ _ r => ?_)⟩
  have := r.grow (hid' := offρ ρ hid') [] fun p hp => List.mem_filter.mpr ⟨X'.old p (List.mem_append_left _ hp), by rw [List.contains_eq_mem, decide_eq_false (X.ρhid p hp)]; rfl⟩
  rw [List.append_nil] at this
  exact this
/-- one object was used -/
theorem RepX.unshed1 (X : RepX ns S₀ B cx st ρ s objs fo hid m) (hp : ∀ c o, ns.pen c o → NotTab o) {k : Nat} {P : Addr} {o : Obj} {l c : Nat} {q : Str} {τ : List Addr} (hk : ρ[k]? = some P) (ho : objs[k]? = some o) (hx : st.led[k]? = some (.tab l c q)) (ht : led'[0]? = some (.tab l c q))
    (X' : RepX ⟨hid ++ rest [(P, o)] (ρ.zip objs), ns.pen⟩ S₀ B { cx with stk := cx.stk.map (unlocs ρ) } ⟨led', unlocs ρ st.loc⟩ (P :: τ) s' objs' fo' hid' m') : Rep ns S₀ B cx st ρ s' := by
  obtain ⟨o', ho', ok, _⟩ := X'.at (a := P) ht rfl
  have hin : ∀ p ∈ hid, p ∈ offρ ρ hid' := fun p hp => List.mem_filter.mpr ⟨X'.old p (List.mem_append_left _ hp), by rw [List.contains_eq_mem, decide_eq_false (X.ρhid p hp)]; rfl⟩
  have hr : ∀ p ∈ ρ.zip objs, p.1 ≠ P → p ∈ hid' := fun p hp hne => X'.old p (List.mem_append_right _ (List.mem_filter.mpr ⟨hp, by
    show (!(([(P, o)] : Hid).map (·.1)).contains p.1) = true
    rw [List.contains_eq_mem, decide_eq_false]
    · rfl
    · intro z
      exact hne (List.mem_singleton.mp z)⟩))
  have hled : ∀ {x : O} {o₁ : Obj}, OR ns hid ρ x o₁ → OR ns (offρ ρ hid') ρ x o₁ := fun r => by
    have := r.grow (hid' := offρ ρ hid') [] hin
    rw [List.append_nil] at this
    exact this
  have ok' : OR ns (offρ ρ hid') ρ (.tab l c q) o' := by
    cases ok with
    | tab0 => exact .tab0
    | @tab1 _ _ _ c' oc vs t a b e =>
      refine .tab1 (List.mem_filter.mpr ⟨a, ?_⟩) b e
      rw [List.contains_eq_mem, decide_eq_false]
      · rfl
      intro hm
      have hP : c' ≠ P := fun z => X'.ρhid _ a (by rw [z]; exact List.mem_cons_self)
      obtain ⟨i, hi⟩ := List.mem_iff_getElem?.mp hm
      have hi2 : i < objs.length := by rw [X.len]; exact (List.getElem?_eq_some_iff.mp hi).1
      have hz := zip_mem hi (List.getElem?_eq_getElem hi2)
      have h1 := hr _ hz hP
      have h2 := nodup_key X'.hidNodup a h1
      obtain ⟨x, rx⟩ := X.led.getR (List.getElem_mem hi2)
      rw [h2] at b
      exact rx.notTab hp _ _ _ b e
  refine ⟨objs.set k o', _, _, _, X.unshed (fun p hp => List.mem_append_left _ hp) X' (fun p hp => ?_) (by rw [List.length_set, X.len]) ?_⟩
  · by_cases e : p.1 = P
    · rw [← updL_zip X.nodup X.len hk] at hp
      have hpP : p = (P, o') := by
        have h1 : (P, o') ∈ updL P o' (ρ.zip objs) := updL_self (zip_mem hk ho)
        have nd : ((updL P o' (ρ.zip objs)).map (·.1)).Nodup := by rw [updL_keys, List.map_fst_zip (Nat.le_of_eq X.len.symm)]; exact X.nodup
        obtain ⟨p1, p2⟩ := p
        dsimp only at e
        subst e
        rw [nodup_key nd hp h1]
      rw [hpP]
      exact X'.mem (k := 0) rfl ho'
    · rw [← updL_zip X.nodup X.len hk] at hp
      have : p ∈ ρ.zip objs := by
        clear hr hled ok'
        revert hp
        generalize ρ.zip objs = l
        induction l with
        | nil => exact fun h => h
        | cons y l ih =>
          intro h
          unfold updL at h
          by_cases e1 : y.1 = P
          · rw [if_pos e1] at h
            rcases List.mem_cons.mp h with rfl | h
            · exact absurd rfl e
            · exact List.mem_cons_of_mem _ h
          · rw [if_neg e1] at h
            rcases List.mem_cons.mp h with rfl | h
            · exact List.mem_cons_self
            · exact List.mem_cons_of_mem _ (ih h)
      exact X'.hidMem (hr p this e)
  · have h1 := (X.led.mono fun _ _ r => hled r).set (i := k) ok'
    rwa [show st.led.set k (.tab l c q) = st.led from by
      obtain ⟨hlt, e⟩ := List.getElem?_eq_some_iff.mp hx
      rw [← e]; exact List.set_getElem_self hlt] at h1
end
end Mine
end

section
open PySem PySem.W PyProof.Rows PySem.Calls
set_option autoImplicit false
set_option maxRecDepth 100000
namespace Mine
/-- a helper's own run, and its table still there behind it -/
noncomputable def helperT (a : Nat) (args : List V) (led : List O) (t : Option O → Bool) : Bool := match fnAt a with
  | some F => match callFn (run noOrc false 40) F args led with
    | some (.ok (.bool true), led') => t (nth led' 0)
    | _ => false
  | none => false
theorem helperT_some {a : Nat} {F : Fn} {args : List V} {led : List O} {t : Option O → Bool} (hF : fnAt a = some F) (h : helperT a args led t = true) : ∃ led', callFn (run noOrc false 40) F args led = some (.ok (.bool true), led') ∧ t (nth led' 0) = true := by
  unfold helperT at h
  rw [hF] at h
  dsimp only at h
  split at h
  · rename_i led' e
    exact ⟨led', e, h⟩
  · cases h
theorem isTab_some {l c : Nat} {q : Str} {o : Option O} (h : isTab l c q o = true) : o = some (.tab l c q) := by
  unfold isTab at h
  split at h
  · simp only [Bool.and_eq_true] at h
    obtain ⟨⟨h1, h2⟩, h3⟩ := h
    rw [Nat.eq_of_beq_eq_true h1, Nat.eq_of_beq_eq_true h2, eqS_true h3]
  · cases h
namespace Sys
variable {Y : Sys}
section
variable {cx : Cx} {fr : FI} {st : St} {ρ : List Addr} {s : Shared} {E : Value → Shared → Prop}
theorem pen_no {nums : List Int} {sd : Int} (P : Y.PenOk nums sd) : ∀ c o, Y.ns.pen c o → NotTab o := fun c o h vs q t e => by
  obtain ⟨pl, hp, _⟩ := P.pen
  obtain ⟨_, t, u, n, hd⟩ := (hp c o).mp h
  rw [hd] at e
  cases e
/-- where a helper's own code table lies -/
noncomputable def TabAt (Y : Sys) (a i : Nat) : Prop := ∃ c P, (∀ oc od sl fd, Y.K.lookup a = some ⟨oc, od, .func fd, sl⟩ → fd.code = .ref c) ∧ CodeHd Y.B c P ∧ Y.pre[i]? = some P
theorem fnOk_bare {B : Heap} {f : Loc → Loc} (h : FnOk B cx fr ρ) (τ : List Addr) : FnOk B { cx with stk := cx.stk.map f } ⟨fr.qual, fr.names, [], none, true⟩ τ :=
  ⟨h.frames, h.frame, h.qual, h.outer, h.kinds, fun t e => by cases e⟩
theorem prim1 (k : KAll Y.K) {nums : List Int} {sd : Int} (P : Y.PenOk nums sd) {a i l c : Nat} {q : Str} {F : Fn} {vs : List V} {Vs : List Value} {Q : Value → Shared → Prop} (hF : fnAt a = some F) (ht : F.tab = some 0) (hT : Y.TabAt a i)
    (hled : st.led[i]? = some (.tab l c q)) (h : helperT a vs [.tab l c q] (isTab l c q) = true) (rv : ∀ τ, A2 (VR τ) vs Vs) (G : Y.Gd cx fr 46 ρ) (hfn : fr.fn = true) (R : Y.Rp cx st ρ s) (k' : ∀ s', Y.Rp cx st ρ s' → Q (.bool true) s') :
    Y.wp cx.A (call (.ref a) Vs) Q E s := by
  obtain ⟨led', hcall, hT'⟩ := helperT_some hF h
  obtain ⟨cc, Pt, hc, hhd, hpre⟩ := hT
  have hρ : ρ[i]? = some Pt := G.pre.at hpre
  obtain ⟨objs, fo, hid, m, X⟩ := R
  obtain ⟨o, ho, ok, _⟩ := X.at hled hρ
  have ok₀ : OR Y.ns (hid ++ rest [(Pt, o)] (ρ.zip objs)) [Pt] (.tab l c q) o := by
    cases ok with
    | tab0 => exact .tab0
    | tab1 a b e => exact .tab1 (List.mem_append_left _ a) b e
  have X₀ := X.shed (keep := [(Pt, o)]) (led' := [.tab l c q]) (fun p hp => by rw [List.mem_singleton.mp hp]; exact zip_mem hρ ho) (by simp) (.cons ok₀ .nil)
  have P' : ({ Y with ns := ⟨hid ++ rest [(Pt, o)] (ρ.zip objs), Y.ns.pen⟩, pre := [] } : Sys).PenOk nums sd :=
    ⟨let ⟨pl, h1, np, pvs, h2, h3⟩ := P.pen; ⟨pl, h1, np, pvs, List.mem_append_left _ (X.old _ h2), h3⟩, P.few⟩
  have S : ({ Y with ns := ⟨hid ++ rest [(Pt, o)] (ρ.zip objs), Y.ns.pen⟩, pre := [] } : Sys).Snd 40 (run noOrc false 40) := (run_ok (Y := { Y with ns := ⟨hid ++ rest [(Pt, o)] (ρ.zip objs), Y.ns.pen⟩, pre := [] }) k P' (fun c m v e => by cases e) 40).self
  refine wpAny_call (fn_codeW (Y := { Y with ns := ⟨hid ++ rest [(Pt, o)] (ρ.zip objs), Y.ns.pen⟩, pre := [] }) (cx := { cx with stk := cx.stk.map (unlocs ρ) }) (fr := ⟨fr.qual, fr.names, [], none, true⟩) (st := ⟨[.tab l c q], unlocs ρ st.loc⟩) (ρ := [Pt]) S
    (Y.D.kf.keeps a F hF).2 (fun t e => ?_) G.kind G.hand ⟨[Pt], rfl⟩ (fnOk_bare (G.fn hfn) _) (by have := G.dep; show cx.A.depth + 1 + 2 * 40 ≤ 980; omega) (by have := G.uni; show cx.A.units + 3 + 20 * 40 ≤ 9500; omega) ⟨_, _, _, _, X₀⟩ hcall (rv _) fun ρ' V s' x rV R' => ?_)
  · rw [ht] at e
    cases e
    exact ⟨cc, Pt, hc, hhd, rfl⟩
  · obtain ⟨τ, rfl⟩ := x
    obtain ⟨objs', fo', hid', m', X'⟩ := R'
    cases rV
    rw [nth_eq] at hT'
    exact k' s' (X.unshed1 (pen_no P) hρ ho hled (isTab_some hT') X')
theorem prim0 (k : KAll Y.K) {nums : List Int} {sd : Int} (P : Y.PenOk nums sd) {a : Nat} {F : Fn} {vs : List V} {Vs : List Value} {Q : Value → Shared → Prop} (hF : fnAt a = some F) (ht : F.tab = none)
    (h : helperT a vs [] (fun _ => true) = true) (rv : ∀ τ, A2 (VR τ) vs Vs) (G : Y.Gd cx fr 46 ρ) (hfn : fr.fn = true) (R : Y.Rp cx st ρ s) (k' : ∀ s', Y.Rp cx st ρ s' → Q (.bool true) s') :
    Y.wp cx.A (call (.ref a) Vs) Q E s := by
  obtain ⟨led', hcall, _⟩ := helperT_some hF h
  obtain ⟨objs, fo, hid, m, X⟩ := R
  have X₀ := X.shed (keep := []) (led' := []) (fun p hp => by cases hp) (by simp) .nil
  have P' : ({ Y with ns := ⟨hid ++ rest [] (ρ.zip objs), Y.ns.pen⟩, pre := [] } : Sys).PenOk nums sd :=
    ⟨let ⟨pl, h1, np, pvs, h2, h3⟩ := P.pen; ⟨pl, h1, np, pvs, List.mem_append_left _ (X.old _ h2), h3⟩, P.few⟩
  have S : ({ Y with ns := ⟨hid ++ rest [] (ρ.zip objs), Y.ns.pen⟩, pre := [] } : Sys).Snd 40 (run noOrc false 40) := (run_ok (Y := { Y with ns := ⟨hid ++ rest [] (ρ.zip objs), Y.ns.pen⟩, pre := [] }) k P' (fun c m v e => by cases e) 40).self
  refine wpAny_call (fn_codeW (Y := { Y with ns := ⟨hid ++ rest [] (ρ.zip objs), Y.ns.pen⟩, pre := [] }) (cx := { cx with stk := cx.stk.map (unlocs ρ) }) (fr := ⟨fr.qual, fr.names, [], none, true⟩) (st := ⟨[], unlocs ρ st.loc⟩) (ρ := []) S
    (Y.D.kf.keeps a F hF).2 (fun t e => ?_) G.kind G.hand ⟨[], rfl⟩ (fnOk_bare (G.fn hfn) _) (by have := G.dep; show cx.A.depth + 1 + 2 * 40 ≤ 980; omega) (by have := G.uni; show cx.A.units + 3 + 20 * 40 ≤ 9500; omega) ⟨_, _, _, _, X₀⟩ hcall (rv _) fun ρ' V s' x rV R' => ?_)
  · rw [ht] at e
    cases e
  · obtain ⟨τ, rfl⟩ := x
    obtain ⟨objs', fo', hid', m', X'⟩ := R'
    cases rV
    exact k' s' (X.unshed0 X')
end
end Sys
end Mine
end

section
open PySem PySem.W PyProof.Rows PySem.Calls
set_option autoImplicit false
set_option maxRecDepth 100000
namespace Mine
noncomputable def lawFn : Fn := match topFn 29 (some 0) with
  | some F => F
  | none => ⟨"", [], [], [], none⟩
noncomputable def frL : FI := ⟨lawFn.qual, lawFn.names, [("part", 3)], some 0, true⟩
theorem IntsAre.take' {vs : List Value} {ns : List Int} (h : IntsAre vs ns) : ∀ n : Nat, IntsAre (vs.take n) (ns.take n) := by
  induction h with
  | nil => intro n; rw [List.take_nil, List.take_nil]; exact .nil
  | cons k t r ih =>
    intro n
    cases n with
    | zero => exact .nil
    | succ n => exact .cons k t (ih n)
theorem pick30 (vs : List Value) : kms_pick vs none (some 30) = vs.take 30 := by
  unfold kms_pick
  show (vs.drop 0).take (min 30 vs.length - 0) = _
  rw [List.drop_zero, Nat.sub_zero]
  rcases Nat.le_total vs.length 30 with h | h
  · rw [Nat.min_eq_right h, List.take_length, List.take_of_length_le h]
  · rw [Nat.min_eq_left h]
noncomputable def loc0 (sl : Addr) : Loc := [("script", .fn sl)]
namespace Sys
variable {Y : Sys}
section
variable {n : Nat} {cx : Cx} {st st' st₁ : St} {ρ : List Addr} {s : Shared} {E : Value → Shared → Prop}
theorem law_first {sl : Addr} {vs : List Value} {nums : List Int} {led : List O} {objs : List Obj} {m : Str → Option Value} {Q : Flow → Shared → Prop} {p1 p2 p3 p4 p5 p6 p7 p8 p9 p10 p11 p12 p13 p14 p15 p16 p17 p18 : Pos} {k1 k2 k3 k4 : Nat}
    (hsum : nsIn Y.K mainGlobals "sum" = some none) (G : Y.Gd cx frL n ρ) (X : RepX Y.ns Y.S₀ Y.B cx ⟨led, loc0 sl⟩ ρ s objs [] [] m) (hl : Y.B.IsList sl vs.toArray) (hi : IntsAre vs nums) (hlen : nums.length ≤ 63)
    (hled : ∀ ns hid, A2 (OR ns hid ρ) led objs)
    (q : ∀ pl o pvs np s' a, o = PySem.W.listOf pvs.toArray np → IntsAre pvs (nums.take 30) → a ≠ pl → ({ Y with ns := ⟨[(pl, o)], PenIs pl ((nums.take 30).sum.fmod 997)⟩ } : Sys).Rp cx ⟨led ++ [.pen 0], put "pen" (.loc led.length) (loc0 sl)⟩ (ρ ++ [a]) s' → Q .next s') :
    Y.wp cx.A (exec (.Assign [.Name "pen" p1] (.List [.Call (.Name "list" p2) [.Subscript (.Name "script" p3) (.Slice none (some (.Constant (.int 30) k1 p4)) none p5) p6] [] p7, .Constant (.int 0) k2 p8,
      .BinOp (.Call (.Name "sum" p9) [.Subscript (.Name "script" p10) (.Slice none (some (.Constant (.int 30) k3 p11)) none p12) p13] [] p14) .Mod (.Constant (.int 997) k4 p15) p16] p17) p18) cx.env) Q E s := by
  have hlF : ∀ {h : Heap}, Fr Y.B cx.L h m → h.IsList sl vs.toArray := fun F => by
    obtain ⟨o, ho, hc, k, hd⟩ := hl
    exact ⟨o, F.keep _ _ ho, hc, k, hd⟩
  have vlen : vs.length = nums.length := hi.length
  -- names at a heap of the road
  have N₀ := X.N
  have at' : ∀ {h : Heap} {tk : Nat}, Fr Y.B cx.L h m → News Y.B cx.L h (newsOf [] [] ρ objs) → Y.Rp cx ⟨led, loc0 sl⟩ ρ { s with heap := h, toks := tk } := fun F N => ⟨_, _, _, _, X.re F N⟩
  have scriptN : ∀ {A : Around} {pos : Pos} {h : Heap} {tk : Nat} {Q : Value → Shared → Prop} {E : Value → Shared → Prop}, Fr Y.B cx.L h m → News Y.B cx.L h (newsOf [] [] ρ objs) → Q (.ref sl) { s with heap := h, toks := tk } → Y.wp A (eval (.Name "script" pos) cx.env) Q E { s with heap := h, toks := tk } :=
    fun F N q => name_go Y.D G (at' F N) (show evName frL ⟨led, loc0 sl⟩ "script" = some (.fn sl) from by kernel_rfl) fun V rV => by cases rV; exact q
  have listN : ∀ {A : Around} {pos : Pos} {h : Heap} {tk : Nat} {Q : Value → Shared → Prop} {E : Value → Shared → Prop}, Fr Y.B cx.L h m → News Y.B cx.L h (newsOf [] [] ρ objs) → Q (.type "list") { s with heap := h, toks := tk } → Y.wp A (eval (.Name "list" pos) cx.env) Q E { s with heap := h, toks := tk } :=
    fun F N q => name_go Y.D G (at' F N) (show evName frL ⟨led, loc0 sl⟩ "list" = some (.bi .list) from by kernel_rfl) fun V rV => by cases rV; exact q
  have sumN : ∀ {A : Around} {pos : Pos} {h : Heap} {tk : Nat} {Q : Value → Shared → Prop} {E : Value → Shared → Prop}, Fr Y.B cx.L h m → News Y.B cx.L h (newsOf [] [] ρ objs) → Q (.builtin "sum") { s with heap := h, toks := tk } → Y.wp A (eval (.Name "sum" pos) cx.env) Q E { s with heap := h, toks := tk } :=
    fun F N q => built_go G (at' F N) (by kernel_rfl) hsum (by kernel_rfl) (by decide +kernel) (by decide +kernel) q
  have less : ∀ {h : Heap} {p : Addr × Obj} {news : Hid}, News Y.B cx.L h (p :: news) → News Y.B cx.L h news := fun N q hq => N q (List.mem_cons_of_mem _ hq)
  have slice : ∀ {A : Around} {p1 p2 p3 p4 : Pos} {k : Nat} {h : Heap} {tk : Nat} {news : Hid} {Q : Value → Shared → Prop} {E : Value → Shared → Prop}, Fr Y.B cx.L h m → News Y.B cx.L h (newsOf [] [] ρ objs) → News Y.B cx.L h news →
      (∀ D h' tk', Fr Y.B cx.L h' m → News Y.B cx.L h' ((D, PySem.W.listOf (vs.take 30).toArray 0) :: news) → (∀ p ∈ news, p.1 < D) → Q (.ref D) { s with heap := h', toks := tk' }) →
      Y.wp A (eval (.Subscript (.Name "script" p1) (.Slice none (some (.Constant (.int 30) k p2)) none p3) p4) cx.env) Q E { s with heap := h, toks := tk } := by
    intro A p1 p2 p3 p4 k h tk news Q E F N₁ N q
    refine Subscript_ (scriptN F N₁ (wpAny_Slice (evalPart_none_step (evalPart_some_step (wpAny_Constant_int (evalPart_none_step ?_))))))
    refine kms_slice_lit (lo := none) (hi := some 30) (its := vs.toArray) (s := { s with heap := h, toks := tk + 1 }) F N (hlF F) IsPart.none (IsPart.int _ _) (pick30 vs) (fun D h' F' N' l1 => q D h' _ F' N' l1) (by with_unfolding_all rfl) (fun r => rfl) ?_
    rw [List.size_toArray, sizeLine_eq, vlen]
    omega
  have F₀ := X.F
  refine wpAny_Assign_Name (List_ ?_) (comp_no rfl _ _ _)
  -- list(script[:30])
  refine spliced_more (Call_ (listN F₀ N₀ (PyProof.Rows.callWith_type rfl (evalArgs_plain (spliced_more (slice F₀ N₀ N₀ fun D₁ h₁ tk₁ F₁ N₁ l₁ => spliced_none ?_))))))
  refine list_copyK (s := { s with heap := h₁, toks := tk₁ }) F₁ (less N₁) ⟨_, (N₁ _ List.mem_cons_self).1, rfl, _, rfl⟩ (fun D₂ c₂ h₂ F₂ N₂ l₂ => ?_) ?_
  · refine spliced_more (wpAny_Constant_int ?_)
    -- sum(script[:30]) % 997
    refine spliced_more (wpAny_BinOp (Call_ (sumN F₂ (less N₂) ?_)))
    refine callWith_method1 (id := "sum") (first := []) (spliced_more (slice F₂ (less N₂) N₂ fun D₃ h₃ tk₃ F₃ N₃ l₃ => spliced_none ?_))
    refine LSm.sum_ints (s := { s with heap := h₃, toks := tk₃ }) F₃ (less N₃) G.hand ⟨_, (N₃ _ List.mem_cons_self).1, rfl, _, rfl⟩ (IntsAre.take' hi 30) fun h₄ tk₄ t₄ F₄ N₄ => ?_
    refine wpAny_Constant_int (PyProof.Rows.mod_int (by decide) ?_)
    refine spliced_none (newList_N F₄ N₄ (fun h₅ F₅ N₅ => ?_) (by rw [sizeLine_eq]; show 3 ≤ 16777216; decide))
    have hD : D₂ < h₄.objs.size := Heap.lt_size (N₄ (D₂, _) List.mem_cons_self).1
    have hρD : ∀ p ∈ newsOf [] [] ρ objs, p.1 < D₂ := fun p hp => l₂ p hp
    have hz : newsOf [] [(D₂, PySem.W.listOf (vs.take 30).toArray c₂)] (ρ ++ [h₄.objs.size]) (objs ++ [PySem.W.listOf ([.ref D₂, .int 0 tk₁, .int ((nums.take 30).sum.fmod 997) (tk₄ + 1)] : List Value).toArray 0]) =
        (D₂, PySem.W.listOf (vs.take 30).toArray c₂) :: (newsOf [] [] ρ objs ++ [(h₄.objs.size, PySem.W.listOf ([.ref D₂, .int 0 tk₁, .int ((nums.take 30).sum.fmod 997) (tk₄ + 1)] : List Value).toArray 0)]) := by
      show [] ++ ([_] ++ (ρ ++ [_]).zip (objs ++ [_])) = _
      rw [zip_snoc X.len]
      rfl
    have X₅ : RepX ⟨[(D₂, PySem.W.listOf (vs.take 30).toArray c₂)], PenIs D₂ ((nums.take 30).sum.fmod 997)⟩ Y.S₀ Y.B cx ⟨led ++ [.pen 0], loc0 sl⟩ (ρ ++ [h₄.objs.size]) { s with heap := h₅, toks := tk₄ + 1 + 1 }
        (objs ++ [PySem.W.listOf ([.ref D₂, .int 0 tk₁, .int ((nums.take 30).sum.fmod 997) (tk₄ + 1)] : List Value).toArray 0]) [] [(D₂, PySem.W.listOf (vs.take 30).toArray c₂)] m := by
      refine ⟨F₅, fun p hp => ?_, ?_, by rw [List.length_append, List.length_append, X.len]; rfl, ?_, X.fas, X.stk.mono fun _ _ r => r.grow _, X.loc.grow _, X.sh, fun p hp => hp⟩
      · rw [hz] at hp
        refine N₅ p ?_
        rcases List.mem_cons.mp hp with rfl | hp
        · exact List.mem_cons_of_mem _ List.mem_cons_self
        · rcases List.mem_append.mp hp with hp | hp
          · exact List.mem_cons_of_mem _ (List.mem_cons_of_mem _ hp)
          · rw [List.mem_singleton.mp hp]
            exact List.mem_cons_self
      · rw [hz, List.map_cons, List.map_append, List.nodup_cons]
        refine ⟨fun hm => ?_, List.nodup_append.mpr ⟨X.nd, by simp, fun a ha b hb => ?_⟩⟩
        · rcases List.mem_append.mp hm with hm | hm
          · obtain ⟨p, hp, e⟩ := List.mem_map.mp hm
            have := hρD p hp
            rw [e] at this
            exact Nat.lt_irrefl _ this
          · rw [List.map_cons, List.map_nil, List.mem_singleton] at hm
            exact Nat.ne_of_lt hD hm
        · obtain ⟨p, hp, rfl⟩ := List.mem_map.mp ha
          rw [List.map_cons, List.map_nil, List.mem_singleton] at hb
          rw [hb]
          exact Nat.ne_of_lt (Nat.lt_trans (hρD p hp) hD)
      · have gen : ∀ (ns' : Par) (hid' : Hid), A2 (OR ns' hid' (ρ ++ [h₄.objs.size])) led objs := fun ns' hid' => (hled ns' hid').mono fun _ _ r => r.grow _ fun _ h => h
        exact A2.append (gen _ _) (.cons (.pen ⟨rfl, tk₁, tk₄ + 1, 0, rfl⟩) .nil)
    refine store_go (Y := { Y with ns := ⟨[(D₂, PySem.W.listOf (vs.take 30).toArray c₂)], PenIs D₂ ((nums.take 30).sum.fmod 997)⟩ }) (st' := ⟨led ++ [.pen 0], put "pen" (.loc led.length) (loc0 sl)⟩) (G.ext (Ext.snoc _ _)) ⟨_, _, _, _, X₅⟩ ?_ (loc_last X.count) fun s' R' => ?_
    · kernel_rfl
    · exact q D₂ _ (vs.take 30) c₂ s' _ rfl (IntsAre.take' hi 30) (Nat.ne_of_gt hD) R'
  · rw [List.size_toArray, List.length_take, sizeLine_eq]
    omega
end
end Sys
end Mine
end

section
open PySem PySem.W PyProof.Rows PySem.Calls
set_option autoImplicit false
set_option maxRecDepth 100000
namespace Mine
/-- five sizes, at a written lead and offset -/
noncomputable def chkZ (a : Int) (s f : Bool) (i : Int) : Nat → Bool := Nat.rec true fun z ih => match helperT 191 [.int a, .bool s, .int i, .int (Int.ofNat z), .bool f] [tabS] (isTab 174 21 qs) with
  | true => ih
  | false => false
noncomputable def chkS (a : Int) (s f : Bool) : Nat → Bool := Nat.rec true fun i ih => match chkZ a s f (Int.ofNat i) 5 with
  | true => ih
  | false => false
noncomputable def chkR (a : Int) (s : Bool) : Nat → Bool := Nat.rec true fun z ih => match helperT 198 [.int a, .bool s, .int (Int.ofNat z)] [tabR] (isTab 195 21 qr) with
  | true => ih
  | false => false
noncomputable def chkQ (a : Int) (s : Bool) : Nat → Bool := Nat.rec true fun z ih => match helperT 205 [.int a, .bool s, .int (Int.ofNat z)] [] (fun _ => true) with
  | true => ih
  | false => false
theorem rec_at {p : Nat → Bool} {g : Nat → Bool} (hs : ∀ n, g (n + 1) = match p n with | true => g n | false => false) : ∀ {n z : Nat}, g n = true → z < n → p z = true
  | n + 1, z, h, hz => by
    rw [hs] at h
    split at h
    · rename_i e
      rcases Nat.lt_succ_iff_lt_or_eq.mp hz with hz | rfl
      · exact rec_at hs h hz
      · exact e
    · cases h
theorem cs_0_0_0 : chkS 0 false false 5 = true := by decide +kernel
theorem cs_0_0_1 : chkS 0 false true 5 = true := by decide +kernel
theorem cr_0_0 : chkR 0 false 8 = true := by decide +kernel
theorem cq_0_0 : chkQ 0 false 6 = true := by decide +kernel
theorem cs_0_1_0 : chkS 0 true false 5 = true := by decide +kernel
theorem cs_0_1_1 : chkS 0 true true 5 = true := by decide +kernel
theorem cr_0_1 : chkR 0 true 8 = true := by decide +kernel
theorem cq_0_1 : chkQ 0 true 6 = true := by decide +kernel
theorem cs_1_0_0 : chkS 1 false false 5 = true := by decide +kernel
theorem cs_1_0_1 : chkS 1 false true 5 = true := by decide +kernel
theorem cr_1_0 : chkR 1 false 8 = true := by decide +kernel
theorem cq_1_0 : chkQ 1 false 6 = true := by decide +kernel
theorem cs_1_1_0 : chkS 1 true false 5 = true := by decide +kernel
theorem cs_1_1_1 : chkS 1 true true 5 = true := by decide +kernel
theorem cr_1_1 : chkR 1 true 8 = true := by decide +kernel
theorem cq_1_1 : chkQ 1 true 6 = true := by decide +kernel
theorem cs_2_0_0 : chkS 2 false false 5 = true := by decide +kernel
theorem cs_2_0_1 : chkS 2 false true 5 = true := by decide +kernel
theorem cr_2_0 : chkR 2 false 8 = true := by decide +kernel
theorem cq_2_0 : chkQ 2 false 6 = true := by decide +kernel
theorem cs_3_0_0 : chkS 3 false false 5 = true := by decide +kernel
theorem cs_3_0_1 : chkS 3 false true 5 = true := by decide +kernel
theorem cr_3_0 : chkR 3 false 8 = true := by decide +kernel
theorem cq_3_0 : chkQ 3 false 6 = true := by decide +kernel
theorem cs_4_0_0 : chkS 4 false false 5 = true := by decide +kernel
theorem cs_4_0_1 : chkS 4 false true 5 = true := by decide +kernel
theorem cr_4_0 : chkR 4 false 8 = true := by decide +kernel
theorem cq_4_0 : chkQ 4 false 6 = true := by decide +kernel
theorem cs_5_0_0 : chkS 5 false false 5 = true := by decide +kernel
theorem cs_5_0_1 : chkS 5 false true 5 = true := by decide +kernel
theorem cr_5_0 : chkR 5 false 8 = true := by decide +kernel
theorem cq_5_0 : chkQ 5 false 6 = true := by decide +kernel
theorem leads_are {a : Int} {s : Bool} (h : lead a s = true) : (s = false ∧ (a = 0 ∨ a = 1 ∨ a = 2 ∨ a = 3 ∨ a = 4 ∨ a = 5)) ∨ (s = true ∧ (a = 0 ∨ a = 1)) := by
  unfold lead at h
  rw [Bool.and_eq_true, Bool.and_eq_true, Bool.or_eq_true] at h
  obtain ⟨⟨h1, h2⟩, h3⟩ := h
  have h1 := of_decide_eq_true h1
  have h2 := of_decide_eq_true h2
  cases s with
  | false => exact .inl ⟨rfl, by omega⟩
  | true =>
    rcases h3 with h3 | h3
    · cases h3
    · have h3 := of_decide_eq_true h3
      exact .inr ⟨rfl, by omega⟩
theorem chkS_all {a : Int} {s : Bool} (f : Bool) (h : lead a s = true) : chkS a s f 5 = true := by
  rcases leads_are h with ⟨rfl, rfl | rfl | rfl | rfl | rfl | rfl⟩ | ⟨rfl, rfl | rfl⟩
  · cases f; exact cs_0_0_0; exact cs_0_0_1
  · cases f; exact cs_1_0_0; exact cs_1_0_1
  · cases f; exact cs_2_0_0; exact cs_2_0_1
  · cases f; exact cs_3_0_0; exact cs_3_0_1
  · cases f; exact cs_4_0_0; exact cs_4_0_1
  · cases f; exact cs_5_0_0; exact cs_5_0_1
  · cases f; exact cs_0_1_0; exact cs_0_1_1
  · cases f; exact cs_1_1_0; exact cs_1_1_1
theorem chkR_all {a : Int} {s : Bool} (h : lead a s = true) : chkR a s 8 = true := by
  rcases leads_are h with ⟨rfl, rfl | rfl | rfl | rfl | rfl | rfl⟩ | ⟨rfl, rfl | rfl⟩
  · exact cr_0_0
  · exact cr_1_0
  · exact cr_2_0
  · exact cr_3_0
  · exact cr_4_0
  · exact cr_5_0
  · exact cr_0_1
  · exact cr_1_1
theorem chkQ_all {a : Int} {s : Bool} (h : lead a s = true) : chkQ a s 6 = true := by
  rcases leads_are h with ⟨rfl, rfl | rfl | rfl | rfl | rfl | rfl⟩ | ⟨rfl, rfl | rfl⟩
  · exact cq_0_0
  · exact cq_1_0
  · exact cq_2_0
  · exact cq_3_0
  · exact cq_4_0
  · exact cq_5_0
  · exact cq_0_1
  · exact cq_1_1
theorem prim191_inv {ρ : List Addr} {vs : List V} {Vs : List Value} (h : prim191 vs = true) (rv : A2 (VR ρ) vs Vs) : ∃ a s i j f t1 t3 t4, Vs = [.int a t1, .bool s, .int i t3, .int j t4, .bool f] ∧ lead a s = true ∧ 0 ≤ i ∧ i < 5 ∧ 0 ≤ j ∧ j < 5 := by
  unfold prim191 at h
  split at h
  · rename_i a s m k
    rw [Bool.and_eq_true, Bool.and_eq_true] at h
    have hm := Nat.eq_of_beq_eq_true h.2.1
    have hk := Nat.eq_of_beq_eq_true h.2.2
    subst hm hk
    cases rv with | cons r1 rv => cases rv with | cons r2 rv => cases rv with | cons r3 rv => cases rv with | cons r4 rv => cases rv with | cons r5 rv =>
    cases rv
    cases r1 with | int _ u1 => cases r2 with | bool _ => cases r3 with | @any _ i u3 i0 i1 => cases r4 with | @any _ j u4 j0 j1 => cases r5 with | anyb f =>
    exact ⟨a, s, i, j, f, u1, u3, u4, rfl, h.1, i0, i1, j0, j1⟩
  · cases h
theorem prim3_inv {n : Nat} {ρ : List Addr} {vs : List V} {Vs : List Value} (h : prim3 n vs = true) (rv : A2 (VR ρ) vs Vs) : ∃ a s i t1 t3, Vs = [.int a t1, .bool s, .int i t3] ∧ lead a s = true ∧ 0 ≤ i ∧ i < n := by
  unfold prim3 at h
  split at h
  · rename_i a s m
    rw [Bool.and_eq_true] at h
    have hm := Nat.eq_of_beq_eq_true h.2
    subst hm
    cases rv with | cons r1 rv => cases rv with | cons r2 rv => cases rv with | cons r3 rv =>
    cases rv
    cases r1 with | int _ u1 => cases r2 with | bool _ => cases r3 with | @any _ i u3 i0 i1 =>
    exact ⟨a, s, i, u1, u3, rfl, h.1, i0, i1⟩
  · cases h
theorem run191 {a : Int} {s : Bool} {i j : Int} {f : Bool} (h : lead a s = true) (i0 : 0 ≤ i) (i1 : i < 5) (j0 : 0 ≤ j) (j1 : j < 5) : helperT 191 [.int a, .bool s, .int i, .int j, .bool f] [tabS] (isTab 174 21 qs) = true := by
  obtain ⟨y, rfl⟩ := Int.eq_ofNat_of_zero_le i0
  obtain ⟨z, rfl⟩ := Int.eq_ofNat_of_zero_le j0
  have hy : y < 5 := by omega
  have hz : z < 5 := by omega
  have h1 := rec_at (p := fun i => chkZ a s f (Int.ofNat i) 5) (g := chkS a s f) (fun n => rfl) (chkS_all f h) hy
  exact rec_at (p := fun z => helperT 191 [.int a, .bool s, .int (Int.ofNat y), .int (Int.ofNat z), .bool f] [tabS] (isTab 174 21 qs)) (g := chkZ a s f (Int.ofNat y)) (fun n => rfl) h1 hz
theorem run198 {a : Int} {s : Bool} {i : Int} (h : lead a s = true) (i0 : 0 ≤ i) (i1 : i < (8 : Nat)) : helperT 198 [.int a, .bool s, .int i] [tabR] (isTab 195 21 qr) = true := by
  obtain ⟨z, rfl⟩ := Int.eq_ofNat_of_zero_le i0
  have hz : z < 8 := by omega
  exact rec_at (p := fun z => helperT 198 [.int a, .bool s, .int (Int.ofNat z)] [tabR] (isTab 195 21 qr)) (g := chkR a s) (fun n => rfl) (chkR_all h) hz
theorem run205 {a : Int} {s : Bool} {i : Int} (h : lead a s = true) (i0 : 0 ≤ i) (i1 : i < (6 : Nat)) : helperT 205 [.int a, .bool s, .int i] [] (fun _ => true) = true := by
  obtain ⟨z, rfl⟩ := Int.eq_ofNat_of_zero_le i0
  have hz : z < 6 := by omega
  exact rec_at (p := fun z => helperT 205 [.int a, .bool s, .int (Int.ofNat z)] [] (fun _ => true)) (g := chkQ a s) (fun n => rfl) (chkQ_all h) hz
theorem fn191 : ∃ F, fnAt 191 = some F ∧ F.tab = some 0 := ⟨_, rfl, rfl⟩
theorem fn198 : ∃ F, fnAt 198 = some F ∧ F.tab = some 0 := ⟨_, rfl, rfl⟩
theorem fn205 : ∃ F, fnAt 205 = some F ∧ F.tab = none := ⟨_, rfl, rfl⟩
namespace Sys
variable {Y : Sys}
theorem prim_ok (k : KAll Y.K) {nums : List Int} {sd : Int} (P : Y.PenOk nums sd) (hS : Y.TabAt 191 1) (hR : Y.TabAt 198 2) : Y.PrimOk := by
  intro cx fr st ρ s a vs Vs Q E hp ht rv G hfn R k'
  unfold tabsIn at ht
  rw [Bool.and_eq_true, nth_eq, nth_eq] at ht
  rcases prim_inv hp with ⟨rfl, h⟩ | ⟨rfl, h⟩ | ⟨rfl, h⟩
  · obtain ⟨a, s, i, j, f, t1, t3, t4, rfl, hl, i0, i1, j0, j1⟩ := prim191_inv h rv
    obtain ⟨F, hF, hFt⟩ := fn191
    exact prim1 k P hF hFt hS (isTab_some ht.1) (run191 hl i0 i1 j0 j1) (fun τ => .cons (.int _ _) (.cons (.bool _) (.cons (.int _ _) (.cons (.int _ _) (.cons (.bool _) .nil))))) G hfn R k'
  · obtain ⟨a, s, i, t1, t3, rfl, hl, i0, i1⟩ := prim3_inv h rv
    obtain ⟨F, hF, hFt⟩ := fn198
    exact prim1 k P hF hFt hR (isTab_some ht.2) (run198 hl i0 i1) (fun τ => .cons (.int _ _) (.cons (.bool _) (.cons (.int _ _) .nil))) G hfn R k'
  · obtain ⟨a, s, i, t1, t3, rfl, hl, i0, i1⟩ := prim3_inv h rv
    obtain ⟨F, hF, hFt⟩ := fn205
    exact prim0 k P hF hFt (run205 hl i0 i1) (fun τ => .cons (.int _ _) (.cons (.bool _) (.cons (.int _ _) .nil))) G hfn R k'
end Sys
end Mine
end

section
open PySem PySem.W PyProof.Rows PySem.Calls
set_option autoImplicit false
set_option maxRecDepth 100000
namespace Mine
noncomputable def lawLed : List O := [tabL, tabS, tabR, .cell none, .pen 0]
/-- the three draws that the law's way hangs on -/
noncomputable def orcOf (a b c : Int) : Nat → Int → Option Int := fun k m => match k with
  | 1 => match decide (m = 6) with
    | true => some a
    | false => none
  | 2 => match decide (m = 2) with
    | true => some b
    | false => none
  | 18 => match decide (m = 4) with
    | true => some c
    | false => none
  | _ => none
noncomputable def lawRun (a b c : Int) : Option (Flo × St) := (runL (orcOf a b c) 45).exs frL (lawFn.body.drop 1) ⟨lawLed, [("pen", .loc 4)]⟩
noncomputable def lawGood (x : Option (Flo × St)) : Bool := match x with
  | some (.ret (.bool true), st) => isTab 228 21 ql (nth st.led 0) && isTab 174 21 qs (nth st.led 1) && isTab 195 21 qr (nth st.led 2)
  | _ => false
noncomputable def lawFour (a b : Int) : Nat → Bool := Nat.rec true fun c ih => match lawGood (lawRun a b (Int.ofNat c)) with
  | true => ih
  | false => false
theorem lawGood_some {x : Option (Flo × St)} (h : lawGood x = true) : ∃ st, x = some (.ret (.bool true), st) ∧ st.led[0]? = some tabL ∧ st.led[1]? = some tabS ∧ st.led[2]? = some tabR := by
  unfold lawGood at h
  split at h
  · rename_i st
    rw [Bool.and_eq_true, Bool.and_eq_true] at h
    obtain ⟨⟨h1, h2⟩, h3⟩ := h
    rw [nth_eq] at h1 h2 h3
    exact ⟨st, rfl, isTab_some h1, isTab_some h2, isTab_some h3⟩
  · cases h
theorem lw_0_0 : lawFour 0 0 4 = true := by decide +kernel
theorem lw_0_1 : lawFour 0 1 4 = true := by decide +kernel
theorem lw_1_0 : lawFour 1 0 4 = true := by decide +kernel
theorem lw_1_1 : lawFour 1 1 4 = true := by decide +kernel
theorem lw_2_0 : lawFour 2 0 4 = true := by decide +kernel
theorem lw_2_1 : lawFour 2 1 4 = true := by decide +kernel
theorem lw_3_0 : lawFour 3 0 4 = true := by decide +kernel
theorem lw_3_1 : lawFour 3 1 4 = true := by decide +kernel
theorem lw_4_0 : lawFour 4 0 4 = true := by decide +kernel
theorem lw_4_1 : lawFour 4 1 4 = true := by decide +kernel
theorem lw_5_0 : lawFour 5 0 4 = true := by decide +kernel
theorem lw_5_1 : lawFour 5 1 4 = true := by decide +kernel
theorem law_fours {a b : Int} (a0 : 0 ≤ a) (a6 : a < 6) (b0 : 0 ≤ b) (b2 : b < 2) : lawFour a b 4 = true := by
  have ha : a = 0 ∨ a = 1 ∨ a = 2 ∨ a = 3 ∨ a = 4 ∨ a = 5 := by omega
  have hb : b = 0 ∨ b = 1 := by omega
  rcases ha with rfl | rfl | rfl | rfl | rfl | rfl
  · rcases hb with rfl | rfl
    · exact lw_0_0
    · exact lw_0_1
  · rcases hb with rfl | rfl
    · exact lw_1_0
    · exact lw_1_1
  · rcases hb with rfl | rfl
    · exact lw_2_0
    · exact lw_2_1
  · rcases hb with rfl | rfl
    · exact lw_3_0
    · exact lw_3_1
  · rcases hb with rfl | rfl
    · exact lw_4_0
    · exact lw_4_1
  · rcases hb with rfl | rfl
    · exact lw_5_0
    · exact lw_5_1
theorem law_all {a b c : Int} (a0 : 0 ≤ a) (a6 : a < 6) (b0 : 0 ≤ b) (b2 : b < 2) (c0 : 0 ≤ c) (c4 : c < 4) : lawGood (lawRun a b c) = true := by
  obtain ⟨z, rfl⟩ := Int.eq_ofNat_of_zero_le c0
  have hz : z < 4 := by omega
  exact rec_at (p := fun c => lawGood (lawRun a b (Int.ofNat c))) (g := lawFour a b) (fun n => rfl) (law_fours a0 a6 b0 b2) hz
theorem draw_in {nums : List Int} {sd : Int} {c : Nat} {m : Int} (h : 0 < m) : 0 ≤ draw nums sd c m ∧ draw nums sd c m < m := by
  unfold draw
  split
  · exact ⟨Int.fmod_nonneg_of_pos _ h, Int.fmod_lt_of_pos _ h⟩
  · exact ⟨Int.fmod_nonneg_of_pos _ h, Int.fmod_lt_of_pos _ h⟩
theorem orcOf_ok {nums : List Int} {sd : Int} : ∀ k m v, orcOf (draw nums sd 1 6) (draw nums sd 2 2) (draw nums sd 18 4) k m = some v → v = draw nums sd k m := by
  intro k m v h
  unfold orcOf at h
  split at h
  · split at h
    · rename_i e
      cases h
      rw [of_decide_eq_true e]
    · cases h
  · split at h
    · rename_i e
      cases h
      rw [of_decide_eq_true e]
    · cases h
  · split at h
    · rename_i e
      cases h
      rw [of_decide_eq_true e]
    · cases h
  · cases h
namespace Sys
variable {Y : Sys}
section
variable {cx : Cx} {ρ : List Addr} {s : Shared} {E : Value → Shared → Prop}
theorem law_rest (k : KAll Y.K) {nums : List Int} {sd : Int} (P : Y.PenOk nums sd) (hS : Y.TabAt 191 1) (hR : Y.TabAt 198 2) (G : Y.Gd cx frL 90 ρ) (R : Y.Rp cx ⟨lawLed, [("pen", .loc 4)]⟩ ρ s) {Q : Flow → Shared → Prop}
    (q : ∀ st ρ' s', st.led[0]? = some tabL → st.led[1]? = some tabS → st.led[2]? = some tabR → Ext ρ ρ' → Y.Rp cx st ρ' s' → Q (.ret (.bool true)) s') : Y.wp cx.A (execs (lawFn.body.drop 1) cx.env) Q E s := by
  have hp : ∀ H, (∀ p ∈ Y.ns.hid, p ∈ H) → (Y.at' H).PrimOk := fun H hH => prim_ok (Y := Y.at' H) k (at_PenOk P hH) hS hR
  have S : Y.Snd 90 (runM (orcOf (draw nums sd 1 6) (draw nums sd 2 2) (draw nums sd 18 4)) 45 45) := (runM_ok k P orcOf_ok hp (Nat.le_refl 45) 45).self
  have d1 := draw_in (nums := nums) (sd := sd) (c := 1) (m := 6) (by decide)
  have d2 := draw_in (nums := nums) (sd := sd) (c := 2) (m := 2) (by decide)
  have d3 := draw_in (nums := nums) (sd := sd) (c := 18) (m := 4) (by decide)
  obtain ⟨st, h, t0, t1, t2⟩ := lawGood_some (law_all d1.1 d1.2 d2.1 d2.2 d3.1 d3.2)
  exact S.ex cx frL _ _ (.ret (.bool true)) st ρ s Q E h G R fun ρ' V s' x rv R' => by
    cases rv
    exact q st ρ' s' t0 t1 t2 x R'
end
end Sys
end Mine
end

section
open PySem PySem.W PyProof.Rows PySem.Calls
set_option linter.unusedVariables false
set_option autoImplicit false
set_option maxRecDepth 100000
namespace Mine
/-! What stands behind the top: the objects that the law's way reads, each under its address (printed by KP2.lean from the head's own look). -/
noncomputable def stMeth (i j : Nat) : Option Stmt := match top i with
  | some (.ClassDef (body := b) ..) => b[j]?
  | _ => none
noncomputable def bodyOf : Option Stmt → List Stmt
  | some (.FunctionDef (body := b) ..) => b
  | _ => []
noncomputable def parsOf : Option Stmt → Arguments
  | some (.FunctionDef (args := a) ..) => a
  | _ => ⟨[], [], none, [], [], none, []⟩
noncomputable def scopeOf : Option Stmt → Scope
  | some (.FunctionDef (scope := sc) ..) => sc
  | _ => { kind := .module, names := [], isGenerator := false, isCoroutine := false }
noncomputable def ob3 (P : Params) : Obj := (@PySem.Obj.mk (@PySem.Value.type "dict") (@Option.none.{0} @Nat) (@PySem.Data.dict (@List.toArray.{0} @PySem.DictEntry (@List.cons.{0} @PySem.DictEntry (@PySem.DictEntry.mk (@PySem.PyData.keyHash P ("__name__" : Str)) (@PySem.Value.str ("__name__" : Str) (165 : Nat)) (@PySem.Value.str ("law_pf0256_01" : Str) (419 : Nat))) (@List.cons.{0} @PySem.DictEntry (@PySem.DictEntry.mk (@PySem.PyData.keyHash P ("__doc__" : Str)) (@PySem.Value.str ("__doc__" : Str) (166 : Nat)) @PySem.Value.none) (@List.cons.{0} @PySem.DictEntry (@PySem.DictEntry.mk (@PySem.PyData.keyHash P ("__package__" : Str)) (@PySem.Value.str ("__package__" : Str) (167 : Nat)) @PySem.Value.none) (@List.cons.{0} @PySem.DictEntry (@PySem.DictEntry.mk (@PySem.PyData.keyHash P ("__loader__" : Str)) (@PySem.Value.str ("__loader__" : Str) (168 : Nat)) (@PySem.Value.builtin "__main__.__loader__#opaque")) (@List.cons.{0} @PySem.DictEntry (@PySem.DictEntry.mk (@PySem.PyData.keyHash P ("__spec__" : Str)) (@PySem.Value.str ("__spec__" : Str) (169 : Nat)) @PySem.Value.none) (@List.cons.{0} @PySem.DictEntry (@PySem.DictEntry.mk (@PySem.PyData.keyHash P ("__annotations__" : Str)) (@PySem.Value.str ("__annotations__" : Str) (170 : Nat)) (@PySem.Value.ref (6 : Nat))) (@List.cons.{0} @PySem.DictEntry (@PySem.DictEntry.mk (@PySem.PyData.keyHash P ("__builtins__" : Str)) (@PySem.Value.str ("__builtins__" : Str) (171 : Nat)) (@PySem.Value.ref (4 : Nat))) (@List.cons.{0} @PySem.DictEntry (@PySem.DictEntry.mk (@PySem.PyData.keyHash P ("__file__" : Str)) (@PySem.Value.str ("__file__" : Str) (173 : Nat)) (@PySem.Value.str ("/claim/cut.py" : Str) (172 : Nat))) (@List.cons.{0} @PySem.DictEntry (@PySem.DictEntry.mk (@PySem.PyData.keyHash P ("__cached__" : Str)) (@PySem.Value.str ("__cached__" : Str) (174 : Nat)) @PySem.Value.none) (@List.cons.{0} @PySem.DictEntry (@PySem.DictEntry.mk (@PySem.PyData.keyHash P ("FLOW_CONTROL_ERROR" : Str)) (@PySem.Value.str ("FLOW_CONTROL_ERROR" : Str) (190 : Nat)) (@PySem.Value.int (3 : Int) (189 : Nat))) (@List.cons.{0} @PySem.DictEntry (@PySem.DictEntry.mk (@PySem.PyData.keyHash P ("FINAL_SIZE_ERROR" : Str)) (@PySem.Value.str ("FINAL_SIZE_ERROR" : Str) (192 : Nat)) (@PySem.Value.int (6 : Int) (191 : Nat))) (@List.cons.{0} @PySem.DictEntry (@PySem.DictEntry.mk (@PySem.PyData.keyHash P ("QuicError" : Str)) (@PySem.Value.str ("QuicError" : Str) (225 : Nat)) (@PySem.Value.ref (31 : Nat))) (@List.cons.{0} @PySem.DictEntry (@PySem.DictEntry.mk (@PySem.PyData.keyHash P ("add_piece" : Str)) (@PySem.Value.str ("add_piece" : Str) (245 : Nat)) (@PySem.Value.ref (41 : Nat))) (@List.cons.{0} @PySem.DictEntry (@PySem.DictEntry.mk (@PySem.PyData.keyHash P ("taken_from" : Str)) (@PySem.Value.str ("taken_from" : Str) (257 : Nat)) (@PySem.Value.ref (48 : Nat))) (@List.cons.{0} @PySem.DictEntry (@PySem.DictEntry.mk (@PySem.PyData.keyHash P ("covered" : Str)) (@PySem.Value.str ("covered" : Str) (263 : Nat)) (@PySem.Value.ref (53 : Nat))) (@List.cons.{0} @PySem.DictEntry (@PySem.DictEntry.mk (@PySem.PyData.keyHash P ("has_span" : Str)) (@PySem.Value.str ("has_span" : Str) (276 : Nat)) (@PySem.Value.ref (60 : Nat))) (@List.cons.{0} @PySem.DictEntry (@PySem.DictEntry.mk (@PySem.PyData.keyHash P ("RECEIVING" : Str)) (@PySem.Value.str ("RECEIVING" : Str) (280 : Nat)) (@PySem.Value.str ("recv" : Str) (279 : Nat))) (@List.cons.{0} @PySem.DictEntry (@PySem.DictEntry.mk (@PySem.PyData.keyHash P ("SIZE_KNOWN" : Str)) (@PySem.Value.str ("SIZE_KNOWN" : Str) (282 : Nat)) (@PySem.Value.str ("size_known" : Str) (281 : Nat))) (@List.cons.{0} @PySem.DictEntry (@PySem.DictEntry.mk (@PySem.PyData.keyHash P ("DATA_RECEIVED" : Str)) (@PySem.Value.str ("DATA_RECEIVED" : Str) (284 : Nat)) (@PySem.Value.str ("data_recvd" : Str) (283 : Nat))) (@List.cons.{0} @PySem.DictEntry (@PySem.DictEntry.mk (@PySem.PyData.keyHash P ("DATA_READ" : Str)) (@PySem.Value.str ("DATA_READ" : Str) (286 : Nat)) (@PySem.Value.str ("data_read" : Str) (285 : Nat))) (@List.cons.{0} @PySem.DictEntry (@PySem.DictEntry.mk (@PySem.PyData.keyHash P ("RESET_RECEIVED" : Str)) (@PySem.Value.str ("RESET_RECEIVED" : Str) (288 : Nat)) (@PySem.Value.str ("reset_recvd" : Str) (287 : Nat))) (@List.cons.{0} @PySem.DictEntry (@PySem.DictEntry.mk (@PySem.PyData.keyHash P ("RESET_READ" : Str)) (@PySem.Value.str ("RESET_READ" : Str) (290 : Nat)) (@PySem.Value.str ("reset_read" : Str) (289 : Nat))) (@List.cons.{0} @PySem.DictEntry (@PySem.DictEntry.mk (@PySem.PyData.keyHash P ("FRAME_RESET" : Str)) (@PySem.Value.str ("FRAME_RESET" : Str) (292 : Nat)) (@PySem.Value.int (4 : Int) (291 : Nat))) (@List.cons.{0} @PySem.DictEntry (@PySem.DictEntry.mk (@PySem.PyData.keyHash P ("FRAME_STREAM" : Str)) (@PySem.Value.str ("FRAME_STREAM" : Str) (294 : Nat)) (@PySem.Value.int (8 : Int) (293 : Nat))) (@List.cons.{0} @PySem.DictEntry (@PySem.DictEntry.mk (@PySem.PyData.keyHash P ("RecvPart" : Str)) (@PySem.Value.str ("RecvPart" : Str) (418 : Nat)) (@PySem.Value.ref (147 : Nat))) (@List.cons.{0} @PySem.DictEntry (@PySem.DictEntry.mk (@PySem.PyData.keyHash P ("_law_states" : Str)) (@PySem.Value.str ("_law_states" : Str) (426 : Nat)) (@PySem.Value.ref (158 : Nat))) (@List.cons.{0} @PySem.DictEntry (@PySem.DictEntry.mk (@PySem.PyData.keyHash P ("_law_next" : Str)) (@PySem.Value.str ("_law_next" : Str) (434 : Nat)) (@PySem.Value.ref (165 : Nat))) (@List.cons.{0} @PySem.DictEntry (@PySem.DictEntry.mk (@PySem.PyData.keyHash P ("_law_led" : Str)) (@PySem.Value.str ("_law_led" : Str) (443 : Nat)) (@PySem.Value.ref (172 : Nat))) (@List.cons.{0} @PySem.DictEntry (@PySem.DictEntry.mk (@PySem.PyData.keyHash P ("_law_told" : Str)) (@PySem.Value.str ("_law_told" : Str) (451 : Nat)) (@PySem.Value.ref (179 : Nat))) (@List.cons.{0} @PySem.DictEntry (@PySem.DictEntry.mk (@PySem.PyData.keyHash P ("_law_refused" : Str)) (@PySem.Value.str ("_law_refused" : Str) (462 : Nat)) (@PySem.Value.ref (186 : Nat))) (@List.cons.{0} @PySem.DictEntry (@PySem.DictEntry.mk (@PySem.PyData.keyHash P ("_law_stream_right" : Str)) (@PySem.Value.str ("_law_stream_right" : Str) (468 : Nat)) (@PySem.Value.ref (191 : Nat))) (@List.cons.{0} @PySem.DictEntry (@PySem.DictEntry.mk (@PySem.PyData.keyHash P ("_law_reset_right" : Str)) (@PySem.Value.str ("_law_reset_right" : Str) (481 : Nat)) (@PySem.Value.ref (198 : Nat))) (@List.cons.{0} @PySem.DictEntry (@PySem.DictEntry.mk (@PySem.PyData.keyHash P ("_law_reading_right" : Str)) (@PySem.Value.str ("_law_reading_right" : Str) (493 : Nat)) (@PySem.Value.ref (205 : Nat))) (@List.cons.{0} @PySem.DictEntry (@PySem.DictEntry.mk (@PySem.PyData.keyHash P ("law" : Str)) (@PySem.Value.str ("law" : Str) (505 : Nat)) (@PySem.Value.ref (212 : Nat))) (@List.nil.{0} @PySem.DictEntry)))))))))))))))))))))))))))))))))))) (34 : Nat)) (@List.toArray.{0} (@Option.{0} @PySem.Value) (@List.nil.{0} (@Option.{0} @PySem.Value))))
noncomputable def ob27 (P : Params) : Obj := (@PySem.Obj.mk (@PySem.Value.type "code") (@Option.none.{0} @Nat) (@PySem.Data.fields (@List.toArray.{0} @PySem.Value (@List.cons.{0} @PySem.Value (@PySem.Value.str ("__init__" : Str) (205 : Nat)) (@List.cons.{0} @PySem.Value (@PySem.Value.str ("QuicError.__init__" : Str) (206 : Nat)) (@List.cons.{0} @PySem.Value (@PySem.Value.str ("/claim/cut.py" : Str) (207 : Nat)) (@List.cons.{0} @PySem.Value (@PySem.Value.int (6 : Int) (0 : Nat)) (@List.cons.{0} @PySem.Value (@PySem.Value.int (4 : Int) (0 : Nat)) (@List.cons.{0} @PySem.Value (@PySem.Value.int (0 : Int) (0 : Nat)) (@List.cons.{0} @PySem.Value (@PySem.Value.int (0 : Int) (0 : Nat)) (@List.cons.{0} @PySem.Value (@PySem.Value.int (3 : Int) (0 : Nat)) (@List.cons.{0} @PySem.Value (@PySem.Value.ref (22 : Nat)) (@List.cons.{0} @PySem.Value (@PySem.Value.bool @Bool.true) (@List.cons.{0} @PySem.Value (@PySem.Value.int (181 : Int) (0 : Nat)) (@List.cons.{0} @PySem.Value (@PySem.Value.ref (23 : Nat)) (@List.cons.{0} @PySem.Value @PySem.Value.none (@List.cons.{0} @PySem.Value (@PySem.Value.ref (24 : Nat)) (@List.cons.{0} @PySem.Value (@PySem.Value.ref (25 : Nat)) (@List.cons.{0} @PySem.Value (@PySem.Value.ref (26 : Nat)) (@List.cons.{0} @PySem.Value (@PySem.Value.int (212 : Int) (0 : Nat)) (@List.cons.{0} @PySem.Value (@PySem.Value.int (6 : Int) (0 : Nat)) (@List.cons.{0} @PySem.Value (@PySem.Value.str ("/claim/cut.py" : Str) (213 : Nat)) (@List.nil.{0} @PySem.Value)))))))))))))))))))))) (@List.toArray.{0} (@Option.{0} @PySem.Value) (@List.nil.{0} (@Option.{0} @PySem.Value))))
noncomputable def ob28 (P : Params) : Obj := (@PySem.Obj.mk (@PySem.Value.type "function") (@Option.none.{0} @Nat) (@PySem.Data.func (@PySem.FuncData.mk ("__init__" : Str) ("QuicError.__init__" : Str) (parsOf (stMeth 3 0)) (@PySem.FuncBody.stmts (bodyOf (stMeth 3 0))) (scopeOf (stMeth 3 0)) (3 : Nat) (@List.nil.{0} (@Prod.{0, 0} @PySem.Str @Nat)) @PySem.Value.none @PySem.Value.none @PySem.Value.none (@PySem.Value.str ("quic.errors" : Str) (187 : Nat)) (@Option.none.{0} @Nat) (@PySem.Value.ref (27 : Nat)) @PySem.Value.none (0 : Nat))) (@List.toArray.{0} (@Option.{0} @PySem.Value) (@List.nil.{0} (@Option.{0} @PySem.Value))))
noncomputable def ob30 (P : Params) : Obj := (@PySem.Obj.mk (@PySem.Value.type "dict") (@Option.none.{0} @Nat) (@PySem.Data.dict (@List.toArray.{0} @PySem.DictEntry (@List.cons.{0} @PySem.DictEntry (@PySem.DictEntry.mk (@PySem.PyData.keyHash P ("__module__" : Str)) (@PySem.Value.str ("__module__" : Str) (200 : Nat)) (@PySem.Value.str ("quic.errors" : Str) (187 : Nat))) (@List.cons.{0} @PySem.DictEntry (@PySem.DictEntry.mk (@PySem.PyData.keyHash P ("__firstlineno__" : Str)) (@PySem.Value.str ("__firstlineno__" : Str) (204 : Nat)) (@PySem.Value.int (4 : Int) (203 : Nat))) (@List.cons.{0} @PySem.DictEntry (@PySem.DictEntry.mk (@PySem.PyData.keyHash P ("__init__" : Str)) (@PySem.Value.str ("__init__" : Str) (214 : Nat)) (@PySem.Value.ref (28 : Nat))) (@List.cons.{0} @PySem.DictEntry (@PySem.DictEntry.mk (@PySem.PyData.keyHash P ("__static_attributes__" : Str)) (@PySem.Value.str ("__static_attributes__" : Str) (218 : Nat)) (@PySem.Value.ref (29 : Nat))) (@List.cons.{0} @PySem.DictEntry (@PySem.DictEntry.mk (@PySem.PyData.keyHash P ("__weakref__" : Str)) (@PySem.Value.str ("__weakref__" : Str) (220 : Nat)) (@PySem.Value.ref (32 : Nat))) (@List.cons.{0} @PySem.DictEntry (@PySem.DictEntry.mk (@PySem.PyData.keyHash P ("__doc__" : Str)) (@PySem.Value.str ("__doc__" : Str) (221 : Nat)) @PySem.Value.none) (@List.nil.{0} @PySem.DictEntry)))))))) (3 : Nat)) (@List.toArray.{0} (@Option.{0} @PySem.Value) (@List.nil.{0} (@Option.{0} @PySem.Value))))
noncomputable def ob31 (P : Params) : Obj := (@PySem.Obj.mk (@PySem.Value.type "type") (@Option.none.{0} @Nat) (@PySem.Data.cls (@PySem.ClassData.mk ("QuicError" : Str) (@List.cons.{0} @PySem.Value (@PySem.Value.type "Exception") (@List.nil.{0} @PySem.Value)) (@List.cons.{0} @PySem.Value (@PySem.Value.ref (31 : Nat)) (@List.cons.{0} @PySem.Value (@PySem.Value.type "Exception") (@List.cons.{0} @PySem.Value (@PySem.Value.type "BaseException") (@List.cons.{0} @PySem.Value (@PySem.Value.type "object") (@List.nil.{0} @PySem.Value))))) (30 : Nat) ("QuicError" : Str) @Bool.true (@List.nil.{0} @PySem.Str) (@List.nil.{0} @PySem.Value) @Bool.false (@Option.none.{0} @Bool) @Bool.false)) (@List.toArray.{0} (@Option.{0} @PySem.Value) (@List.cons.{0} (@Option.{0} @PySem.Value) (@Option.some.{0} @PySem.Value (@PySem.Value.ref (15 : Nat))) (@List.cons.{0} (@Option.{0} @PySem.Value) (@Option.none.{0} @PySem.Value) (@List.cons.{0} (@Option.{0} @PySem.Value) (@Option.some.{0} @PySem.Value (@PySem.Value.str ("QuicError" : Str) (193 : Nat))) (@List.cons.{0} (@Option.{0} @PySem.Value) (@Option.some.{0} @PySem.Value (@PySem.Value.str ("QuicError" : Str) (201 : Nat))) (@List.cons.{0} (@Option.{0} @PySem.Value) (@Option.some.{0} @PySem.Value (@PySem.Value.builtin "Exception.__new__")) (@List.cons.{0} (@Option.{0} @PySem.Value) (@Option.some.{0} @PySem.Value (@PySem.Value.bool @Bool.true)) (@List.nil.{0} (@Option.{0} @PySem.Value))))))))))
noncomputable def ob32 (P : Params) : Obj := (@PySem.Obj.mk (@PySem.Value.type "getset_descriptor") (@Option.none.{0} @Nat) (@PySem.Data.fields (@List.toArray.{0} @PySem.Value (@List.cons.{0} @PySem.Value (@PySem.Value.str ("__weakref__" : Str) (219 : Nat)) (@List.cons.{0} @PySem.Value (@PySem.Value.ref (31 : Nat)) (@List.cons.{0} @PySem.Value (@PySem.Value.builtin "ExceptionGroup.__weakref__") (@List.cons.{0} @PySem.Value @PySem.Value.none (@List.nil.{0} @PySem.Value))))))) (@List.toArray.{0} (@Option.{0} @PySem.Value) (@List.nil.{0} (@Option.{0} @PySem.Value))))
noncomputable def ob40 (P : Params) : Obj := (@PySem.Obj.mk (@PySem.Value.type "code") (@Option.none.{0} @Nat) (@PySem.Data.fields (@List.toArray.{0} @PySem.Value (@List.cons.{0} @PySem.Value (@PySem.Value.str ("add_piece" : Str) (228 : Nat)) (@List.cons.{0} @PySem.Value (@PySem.Value.str ("add_piece" : Str) (229 : Nat)) (@List.cons.{0} @PySem.Value (@PySem.Value.str ("/claim/cut.py" : Str) (230 : Nat)) (@List.cons.{0} @PySem.Value (@PySem.Value.int (12 : Int) (0 : Nat)) (@List.cons.{0} @PySem.Value (@PySem.Value.int (3 : Int) (0 : Nat)) (@List.cons.{0} @PySem.Value (@PySem.Value.int (0 : Int) (0 : Nat)) (@List.cons.{0} @PySem.Value (@PySem.Value.int (0 : Int) (0 : Nat)) (@List.cons.{0} @PySem.Value (@PySem.Value.int (3 : Int) (0 : Nat)) (@List.cons.{0} @PySem.Value (@PySem.Value.ref (35 : Nat)) (@List.cons.{0} @PySem.Value (@PySem.Value.bool @Bool.true) (@List.cons.{0} @PySem.Value (@PySem.Value.int (181 : Int) (0 : Nat)) (@List.cons.{0} @PySem.Value (@PySem.Value.ref (36 : Nat)) (@List.cons.{0} @PySem.Value @PySem.Value.none (@List.cons.{0} @PySem.Value (@PySem.Value.ref (37 : Nat)) (@List.cons.{0} @PySem.Value (@PySem.Value.ref (38 : Nat)) (@List.cons.{0} @PySem.Value (@PySem.Value.ref (39 : Nat)) (@List.cons.{0} @PySem.Value (@PySem.Value.int (243 : Int) (0 : Nat)) (@List.cons.{0} @PySem.Value (@PySem.Value.int (12 : Int) (0 : Nat)) (@List.cons.{0} @PySem.Value (@PySem.Value.str ("/claim/cut.py" : Str) (244 : Nat)) (@List.nil.{0} @PySem.Value)))))))))))))))))))))) (@List.toArray.{0} (@Option.{0} @PySem.Value) (@List.nil.{0} (@Option.{0} @PySem.Value))))
noncomputable def ob41 (P : Params) : Obj := (@PySem.Obj.mk (@PySem.Value.type "function") (@Option.none.{0} @Nat) (@PySem.Data.func (@PySem.FuncData.mk ("add_piece" : Str) ("add_piece" : Str) (parsOf (top 5)) (@PySem.FuncBody.stmts (bodyOf (top 5))) (scopeOf (top 5)) (3 : Nat) (@List.nil.{0} (@Prod.{0, 0} @PySem.Str @Nat)) @PySem.Value.none @PySem.Value.none @PySem.Value.none (@PySem.Value.str ("quic.pieces" : Str) (226 : Nat)) (@Option.none.{0} @Nat) (@PySem.Value.ref (40 : Nat)) @PySem.Value.none (0 : Nat))) (@List.toArray.{0} (@Option.{0} @PySem.Value) (@List.nil.{0} (@Option.{0} @PySem.Value))))
noncomputable def ob47 (P : Params) : Obj := (@PySem.Obj.mk (@PySem.Value.type "code") (@Option.none.{0} @Nat) (@PySem.Data.fields (@List.toArray.{0} @PySem.Value (@List.cons.{0} @PySem.Value (@PySem.Value.str ("taken_from" : Str) (246 : Nat)) (@List.cons.{0} @PySem.Value (@PySem.Value.str ("taken_from" : Str) (247 : Nat)) (@List.cons.{0} @PySem.Value (@PySem.Value.str ("/claim/cut.py" : Str) (248 : Nat)) (@List.cons.{0} @PySem.Value (@PySem.Value.int (25 : Int) (0 : Nat)) (@List.cons.{0} @PySem.Value (@PySem.Value.int (2 : Int) (0 : Nat)) (@List.cons.{0} @PySem.Value (@PySem.Value.int (0 : Int) (0 : Nat)) (@List.cons.{0} @PySem.Value (@PySem.Value.int (0 : Int) (0 : Nat)) (@List.cons.{0} @PySem.Value (@PySem.Value.int (3 : Int) (0 : Nat)) (@List.cons.{0} @PySem.Value (@PySem.Value.ref (42 : Nat)) (@List.cons.{0} @PySem.Value (@PySem.Value.bool @Bool.true) (@List.cons.{0} @PySem.Value (@PySem.Value.int (181 : Int) (0 : Nat)) (@List.cons.{0} @PySem.Value (@PySem.Value.ref (43 : Nat)) (@List.cons.{0} @PySem.Value @PySem.Value.none (@List.cons.{0} @PySem.Value (@PySem.Value.ref (44 : Nat)) (@List.cons.{0} @PySem.Value (@PySem.Value.ref (45 : Nat)) (@List.cons.{0} @PySem.Value (@PySem.Value.ref (46 : Nat)) (@List.cons.{0} @PySem.Value (@PySem.Value.int (255 : Int) (0 : Nat)) (@List.cons.{0} @PySem.Value (@PySem.Value.int (25 : Int) (0 : Nat)) (@List.cons.{0} @PySem.Value (@PySem.Value.str ("/claim/cut.py" : Str) (256 : Nat)) (@List.nil.{0} @PySem.Value)))))))))))))))))))))) (@List.toArray.{0} (@Option.{0} @PySem.Value) (@List.nil.{0} (@Option.{0} @PySem.Value))))
noncomputable def ob48 (P : Params) : Obj := (@PySem.Obj.mk (@PySem.Value.type "function") (@Option.none.{0} @Nat) (@PySem.Data.func (@PySem.FuncData.mk ("taken_from" : Str) ("taken_from" : Str) (parsOf (top 6)) (@PySem.FuncBody.stmts (bodyOf (top 6))) (scopeOf (top 6)) (3 : Nat) (@List.nil.{0} (@Prod.{0, 0} @PySem.Str @Nat)) @PySem.Value.none @PySem.Value.none @PySem.Value.none (@PySem.Value.str ("quic.pieces" : Str) (226 : Nat)) (@Option.none.{0} @Nat) (@PySem.Value.ref (47 : Nat)) @PySem.Value.none (0 : Nat))) (@List.toArray.{0} (@Option.{0} @PySem.Value) (@List.nil.{0} (@Option.{0} @PySem.Value))))
noncomputable def ob52 (P : Params) : Obj := (@PySem.Obj.mk (@PySem.Value.type "code") (@Option.none.{0} @Nat) (@PySem.Data.fields (@List.toArray.{0} @PySem.Value (@List.cons.{0} @PySem.Value (@PySem.Value.str ("covered" : Str) (258 : Nat)) (@List.cons.{0} @PySem.Value (@PySem.Value.str ("covered" : Str) (259 : Nat)) (@List.cons.{0} @PySem.Value (@PySem.Value.str ("/claim/cut.py" : Str) (260 : Nat)) (@List.cons.{0} @PySem.Value (@PySem.Value.int (33 : Int) (0 : Nat)) (@List.cons.{0} @PySem.Value (@PySem.Value.int (1 : Int) (0 : Nat)) (@List.cons.{0} @PySem.Value (@PySem.Value.int (0 : Int) (0 : Nat)) (@List.cons.{0} @PySem.Value (@PySem.Value.int (0 : Int) (0 : Nat)) (@List.cons.{0} @PySem.Value (@PySem.Value.int (3 : Int) (0 : Nat)) (@List.cons.{0} @PySem.Value (@PySem.Value.ref (49 : Nat)) (@List.cons.{0} @PySem.Value (@PySem.Value.bool @Bool.true) (@List.cons.{0} @PySem.Value (@PySem.Value.int (181 : Int) (0 : Nat)) (@List.cons.{0} @PySem.Value (@PySem.Value.ref (50 : Nat)) (@List.cons.{0} @PySem.Value @PySem.Value.none (@List.cons.{0} @PySem.Value @PySem.Value.none (@List.cons.{0} @PySem.Value @PySem.Value.none (@List.cons.{0} @PySem.Value (@PySem.Value.ref (51 : Nat)) (@List.cons.{0} @PySem.Value (@PySem.Value.int (261 : Int) (0 : Nat)) (@List.cons.{0} @PySem.Value (@PySem.Value.int (33 : Int) (0 : Nat)) (@List.cons.{0} @PySem.Value (@PySem.Value.str ("/claim/cut.py" : Str) (262 : Nat)) (@List.nil.{0} @PySem.Value)))))))))))))))))))))) (@List.toArray.{0} (@Option.{0} @PySem.Value) (@List.nil.{0} (@Option.{0} @PySem.Value))))
noncomputable def ob53 (P : Params) : Obj := (@PySem.Obj.mk (@PySem.Value.type "function") (@Option.none.{0} @Nat) (@PySem.Data.func (@PySem.FuncData.mk ("covered" : Str) ("covered" : Str) (parsOf (top 7)) (@PySem.FuncBody.stmts (bodyOf (top 7))) (scopeOf (top 7)) (3 : Nat) (@List.nil.{0} (@Prod.{0, 0} @PySem.Str @Nat)) @PySem.Value.none @PySem.Value.none @PySem.Value.none (@PySem.Value.str ("quic.pieces" : Str) (226 : Nat)) (@Option.none.{0} @Nat) (@PySem.Value.ref (52 : Nat)) @PySem.Value.none (0 : Nat))) (@List.toArray.{0} (@Option.{0} @PySem.Value) (@List.nil.{0} (@Option.{0} @PySem.Value))))
noncomputable def ob59 (P : Params) : Obj := (@PySem.Obj.mk (@PySem.Value.type "code") (@Option.none.{0} @Nat) (@PySem.Data.fields (@List.toArray.{0} @PySem.Value (@List.cons.{0} @PySem.Value (@PySem.Value.str ("has_span" : Str) (266 : Nat)) (@List.cons.{0} @PySem.Value (@PySem.Value.str ("has_span" : Str) (267 : Nat)) (@List.cons.{0} @PySem.Value (@PySem.Value.str ("/claim/cut.py" : Str) (268 : Nat)) (@List.cons.{0} @PySem.Value (@PySem.Value.int (36 : Int) (0 : Nat)) (@List.cons.{0} @PySem.Value (@PySem.Value.int (3 : Int) (0 : Nat)) (@List.cons.{0} @PySem.Value (@PySem.Value.int (0 : Int) (0 : Nat)) (@List.cons.{0} @PySem.Value (@PySem.Value.int (0 : Int) (0 : Nat)) (@List.cons.{0} @PySem.Value (@PySem.Value.int (3 : Int) (0 : Nat)) (@List.cons.{0} @PySem.Value (@PySem.Value.ref (54 : Nat)) (@List.cons.{0} @PySem.Value (@PySem.Value.bool @Bool.true) (@List.cons.{0} @PySem.Value (@PySem.Value.int (181 : Int) (0 : Nat)) (@List.cons.{0} @PySem.Value (@PySem.Value.ref (55 : Nat)) (@List.cons.{0} @PySem.Value @PySem.Value.none (@List.cons.{0} @PySem.Value (@PySem.Value.ref (56 : Nat)) (@List.cons.{0} @PySem.Value (@PySem.Value.ref (57 : Nat)) (@List.cons.{0} @PySem.Value (@PySem.Value.ref (58 : Nat)) (@List.cons.{0} @PySem.Value (@PySem.Value.int (274 : Int) (0 : Nat)) (@List.cons.{0} @PySem.Value (@PySem.Value.int (36 : Int) (0 : Nat)) (@List.cons.{0} @PySem.Value (@PySem.Value.str ("/claim/cut.py" : Str) (275 : Nat)) (@List.nil.{0} @PySem.Value)))))))))))))))))))))) (@List.toArray.{0} (@Option.{0} @PySem.Value) (@List.nil.{0} (@Option.{0} @PySem.Value))))
noncomputable def ob60 (P : Params) : Obj := (@PySem.Obj.mk (@PySem.Value.type "function") (@Option.none.{0} @Nat) (@PySem.Data.func (@PySem.FuncData.mk ("has_span" : Str) ("has_span" : Str) (parsOf (top 9)) (@PySem.FuncBody.stmts (bodyOf (top 9))) (scopeOf (top 9)) (3 : Nat) (@List.nil.{0} (@Prod.{0, 0} @PySem.Str @Nat)) @PySem.Value.none @PySem.Value.none @PySem.Value.none (@PySem.Value.str ("quic.spans" : Str) (264 : Nat)) (@Option.none.{0} @Nat) (@PySem.Value.ref (59 : Nat)) @PySem.Value.none (0 : Nat))) (@List.toArray.{0} (@Option.{0} @PySem.Value) (@List.nil.{0} (@Option.{0} @PySem.Value))))
noncomputable def ob73 (P : Params) : Obj := (@PySem.Obj.mk (@PySem.Value.type "code") (@Option.none.{0} @Nat) (@PySem.Data.fields (@List.toArray.{0} @PySem.Value (@List.cons.{0} @PySem.Value (@PySem.Value.str ("__init__" : Str) (307 : Nat)) (@List.cons.{0} @PySem.Value (@PySem.Value.str ("RecvPart.__init__" : Str) (308 : Nat)) (@List.cons.{0} @PySem.Value (@PySem.Value.str ("/claim/cut.py" : Str) (309 : Nat)) (@List.cons.{0} @PySem.Value (@PySem.Value.int (54 : Int) (0 : Nat)) (@List.cons.{0} @PySem.Value (@PySem.Value.int (2 : Int) (0 : Nat)) (@List.cons.{0} @PySem.Value (@PySem.Value.int (0 : Int) (0 : Nat)) (@List.cons.{0} @PySem.Value (@PySem.Value.int (0 : Int) (0 : Nat)) (@List.cons.{0} @PySem.Value (@PySem.Value.int (3 : Int) (0 : Nat)) (@List.cons.{0} @PySem.Value (@PySem.Value.ref (68 : Nat)) (@List.cons.{0} @PySem.Value (@PySem.Value.bool @Bool.true) (@List.cons.{0} @PySem.Value (@PySem.Value.int (181 : Int) (0 : Nat)) (@List.cons.{0} @PySem.Value (@PySem.Value.ref (69 : Nat)) (@List.cons.{0} @PySem.Value @PySem.Value.none (@List.cons.{0} @PySem.Value (@PySem.Value.ref (70 : Nat)) (@List.cons.{0} @PySem.Value (@PySem.Value.ref (71 : Nat)) (@List.cons.{0} @PySem.Value (@PySem.Value.ref (72 : Nat)) (@List.cons.{0} @PySem.Value (@PySem.Value.int (312 : Int) (0 : Nat)) (@List.cons.{0} @PySem.Value (@PySem.Value.int (54 : Int) (0 : Nat)) (@List.cons.{0} @PySem.Value (@PySem.Value.str ("/claim/cut.py" : Str) (313 : Nat)) (@List.nil.{0} @PySem.Value)))))))))))))))))))))) (@List.toArray.{0} (@Option.{0} @PySem.Value) (@List.nil.{0} (@Option.{0} @PySem.Value))))
noncomputable def ob74 (P : Params) : Obj := (@PySem.Obj.mk (@PySem.Value.type "function") (@Option.none.{0} @Nat) (@PySem.Data.func (@PySem.FuncData.mk ("__init__" : Str) ("RecvPart.__init__" : Str) (parsOf (stMeth 19 0)) (@PySem.FuncBody.stmts (bodyOf (stMeth 19 0))) (scopeOf (stMeth 19 0)) (3 : Nat) (@List.nil.{0} (@Prod.{0, 0} @PySem.Str @Nat)) @PySem.Value.none @PySem.Value.none @PySem.Value.none (@PySem.Value.str ("quic.recvpart" : Str) (277 : Nat)) (@Option.none.{0} @Nat) (@PySem.Value.ref (73 : Nat)) @PySem.Value.none (0 : Nat))) (@List.toArray.{0} (@Option.{0} @PySem.Value) (@List.nil.{0} (@Option.{0} @PySem.Value))))
noncomputable def ob80 (P : Params) : Obj := (@PySem.Obj.mk (@PySem.Value.type "code") (@Option.none.{0} @Nat) (@PySem.Data.fields (@List.toArray.{0} @PySem.Value (@List.cons.{0} @PySem.Value (@PySem.Value.str ("check_end" : Str) (315 : Nat)) (@List.cons.{0} @PySem.Value (@PySem.Value.str ("RecvPart.check_end" : Str) (316 : Nat)) (@List.cons.{0} @PySem.Value (@PySem.Value.str ("/claim/cut.py" : Str) (317 : Nat)) (@List.cons.{0} @PySem.Value (@PySem.Value.int (64 : Int) (0 : Nat)) (@List.cons.{0} @PySem.Value (@PySem.Value.int (4 : Int) (0 : Nat)) (@List.cons.{0} @PySem.Value (@PySem.Value.int (0 : Int) (0 : Nat)) (@List.cons.{0} @PySem.Value (@PySem.Value.int (0 : Int) (0 : Nat)) (@List.cons.{0} @PySem.Value (@PySem.Value.int (3 : Int) (0 : Nat)) (@List.cons.{0} @PySem.Value (@PySem.Value.ref (75 : Nat)) (@List.cons.{0} @PySem.Value (@PySem.Value.bool @Bool.true) (@List.cons.{0} @PySem.Value (@PySem.Value.int (181 : Int) (0 : Nat)) (@List.cons.{0} @PySem.Value (@PySem.Value.ref (76 : Nat)) (@List.cons.{0} @PySem.Value @PySem.Value.none (@List.cons.{0} @PySem.Value (@PySem.Value.ref (77 : Nat)) (@List.cons.{0} @PySem.Value (@PySem.Value.ref (78 : Nat)) (@List.cons.{0} @PySem.Value (@PySem.Value.ref (79 : Nat)) (@List.cons.{0} @PySem.Value (@PySem.Value.int (322 : Int) (0 : Nat)) (@List.cons.{0} @PySem.Value (@PySem.Value.int (64 : Int) (0 : Nat)) (@List.cons.{0} @PySem.Value (@PySem.Value.str ("/claim/cut.py" : Str) (323 : Nat)) (@List.nil.{0} @PySem.Value)))))))))))))))))))))) (@List.toArray.{0} (@Option.{0} @PySem.Value) (@List.nil.{0} (@Option.{0} @PySem.Value))))
noncomputable def ob81 (P : Params) : Obj := (@PySem.Obj.mk (@PySem.Value.type "function") (@Option.none.{0} @Nat) (@PySem.Data.func (@PySem.FuncData.mk ("check_end" : Str) ("RecvPart.check_end" : Str) (parsOf (stMeth 19 1)) (@PySem.FuncBody.stmts (bodyOf (stMeth 19 1))) (scopeOf (stMeth 19 1)) (3 : Nat) (@List.nil.{0} (@Prod.{0, 0} @PySem.Str @Nat)) @PySem.Value.none @PySem.Value.none @PySem.Value.none (@PySem.Value.str ("quic.recvpart" : Str) (277 : Nat)) (@Option.none.{0} @Nat) (@PySem.Value.ref (80 : Nat)) @PySem.Value.none (0 : Nat))) (@List.toArray.{0} (@Option.{0} @PySem.Value) (@List.nil.{0} (@Option.{0} @PySem.Value))))
noncomputable def ob87 (P : Params) : Obj := (@PySem.Obj.mk (@PySem.Value.type "code") (@Option.none.{0} @Nat) (@PySem.Data.fields (@List.toArray.{0} @PySem.Value (@List.cons.{0} @PySem.Value (@PySem.Value.str ("grown" : Str) (325 : Nat)) (@List.cons.{0} @PySem.Value (@PySem.Value.str ("RecvPart.grown" : Str) (326 : Nat)) (@List.cons.{0} @PySem.Value (@PySem.Value.str ("/claim/cut.py" : Str) (327 : Nat)) (@List.cons.{0} @PySem.Value (@PySem.Value.int (73 : Int) (0 : Nat)) (@List.cons.{0} @PySem.Value (@PySem.Value.int (2 : Int) (0 : Nat)) (@List.cons.{0} @PySem.Value (@PySem.Value.int (0 : Int) (0 : Nat)) (@List.cons.{0} @PySem.Value (@PySem.Value.int (0 : Int) (0 : Nat)) (@List.cons.{0} @PySem.Value (@PySem.Value.int (3 : Int) (0 : Nat)) (@List.cons.{0} @PySem.Value (@PySem.Value.ref (82 : Nat)) (@List.cons.{0} @PySem.Value (@PySem.Value.bool @Bool.true) (@List.cons.{0} @PySem.Value (@PySem.Value.int (181 : Int) (0 : Nat)) (@List.cons.{0} @PySem.Value (@PySem.Value.ref (83 : Nat)) (@List.cons.{0} @PySem.Value @PySem.Value.none (@List.cons.{0} @PySem.Value (@PySem.Value.ref (84 : Nat)) (@List.cons.{0} @PySem.Value (@PySem.Value.ref (85 : Nat)) (@List.cons.{0} @PySem.Value (@PySem.Value.ref (86 : Nat)) (@List.cons.{0} @PySem.Value (@PySem.Value.int (331 : Int) (0 : Nat)) (@List.cons.{0} @PySem.Value (@PySem.Value.int (73 : Int) (0 : Nat)) (@List.cons.{0} @PySem.Value (@PySem.Value.str ("/claim/cut.py" : Str) (332 : Nat)) (@List.nil.{0} @PySem.Value)))))))))))))))))))))) (@List.toArray.{0} (@Option.{0} @PySem.Value) (@List.nil.{0} (@Option.{0} @PySem.Value))))
noncomputable def ob88 (P : Params) : Obj := (@PySem.Obj.mk (@PySem.Value.type "function") (@Option.none.{0} @Nat) (@PySem.Data.func (@PySem.FuncData.mk ("grown" : Str) ("RecvPart.grown" : Str) (parsOf (stMeth 19 2)) (@PySem.FuncBody.stmts (bodyOf (stMeth 19 2))) (scopeOf (stMeth 19 2)) (3 : Nat) (@List.nil.{0} (@Prod.{0, 0} @PySem.Str @Nat)) @PySem.Value.none @PySem.Value.none @PySem.Value.none (@PySem.Value.str ("quic.recvpart" : Str) (277 : Nat)) (@Option.none.{0} @Nat) (@PySem.Value.ref (87 : Nat)) @PySem.Value.none (0 : Nat))) (@List.toArray.{0} (@Option.{0} @PySem.Value) (@List.nil.{0} (@Option.{0} @PySem.Value))))
noncomputable def ob94 (P : Params) : Obj := (@PySem.Obj.mk (@PySem.Value.type "code") (@Option.none.{0} @Nat) (@PySem.Data.fields (@List.toArray.{0} @PySem.Value (@List.cons.{0} @PySem.Value (@PySem.Value.str ("on_stream" : Str) (334 : Nat)) (@List.cons.{0} @PySem.Value (@PySem.Value.str ("RecvPart.on_stream" : Str) (335 : Nat)) (@List.cons.{0} @PySem.Value (@PySem.Value.str ("/claim/cut.py" : Str) (336 : Nat)) (@List.cons.{0} @PySem.Value (@PySem.Value.int (78 : Int) (0 : Nat)) (@List.cons.{0} @PySem.Value (@PySem.Value.int (4 : Int) (0 : Nat)) (@List.cons.{0} @PySem.Value (@PySem.Value.int (0 : Int) (0 : Nat)) (@List.cons.{0} @PySem.Value (@PySem.Value.int (0 : Int) (0 : Nat)) (@List.cons.{0} @PySem.Value (@PySem.Value.int (3 : Int) (0 : Nat)) (@List.cons.{0} @PySem.Value (@PySem.Value.ref (89 : Nat)) (@List.cons.{0} @PySem.Value (@PySem.Value.bool @Bool.true) (@List.cons.{0} @PySem.Value (@PySem.Value.int (181 : Int) (0 : Nat)) (@List.cons.{0} @PySem.Value (@PySem.Value.ref (90 : Nat)) (@List.cons.{0} @PySem.Value @PySem.Value.none (@List.cons.{0} @PySem.Value (@PySem.Value.ref (91 : Nat)) (@List.cons.{0} @PySem.Value (@PySem.Value.ref (92 : Nat)) (@List.cons.{0} @PySem.Value (@PySem.Value.ref (93 : Nat)) (@List.cons.{0} @PySem.Value (@PySem.Value.int (343 : Int) (0 : Nat)) (@List.cons.{0} @PySem.Value (@PySem.Value.int (78 : Int) (0 : Nat)) (@List.cons.{0} @PySem.Value (@PySem.Value.str ("/claim/cut.py" : Str) (344 : Nat)) (@List.nil.{0} @PySem.Value)))))))))))))))))))))) (@List.toArray.{0} (@Option.{0} @PySem.Value) (@List.nil.{0} (@Option.{0} @PySem.Value))))
noncomputable def ob95 (P : Params) : Obj := (@PySem.Obj.mk (@PySem.Value.type "function") (@Option.none.{0} @Nat) (@PySem.Data.func (@PySem.FuncData.mk ("on_stream" : Str) ("RecvPart.on_stream" : Str) (parsOf (stMeth 19 3)) (@PySem.FuncBody.stmts (bodyOf (stMeth 19 3))) (scopeOf (stMeth 19 3)) (3 : Nat) (@List.nil.{0} (@Prod.{0, 0} @PySem.Str @Nat)) @PySem.Value.none @PySem.Value.none @PySem.Value.none (@PySem.Value.str ("quic.recvpart" : Str) (277 : Nat)) (@Option.none.{0} @Nat) (@PySem.Value.ref (94 : Nat)) @PySem.Value.none (0 : Nat))) (@List.toArray.{0} (@Option.{0} @PySem.Value) (@List.nil.{0} (@Option.{0} @PySem.Value))))
noncomputable def ob101 (P : Params) : Obj := (@PySem.Obj.mk (@PySem.Value.type "code") (@Option.none.{0} @Nat) (@PySem.Data.fields (@List.toArray.{0} @PySem.Value (@List.cons.{0} @PySem.Value (@PySem.Value.str ("has_all" : Str) (346 : Nat)) (@List.cons.{0} @PySem.Value (@PySem.Value.str ("RecvPart.has_all" : Str) (347 : Nat)) (@List.cons.{0} @PySem.Value (@PySem.Value.str ("/claim/cut.py" : Str) (348 : Nat)) (@List.cons.{0} @PySem.Value (@PySem.Value.int (94 : Int) (0 : Nat)) (@List.cons.{0} @PySem.Value (@PySem.Value.int (1 : Int) (0 : Nat)) (@List.cons.{0} @PySem.Value (@PySem.Value.int (0 : Int) (0 : Nat)) (@List.cons.{0} @PySem.Value (@PySem.Value.int (0 : Int) (0 : Nat)) (@List.cons.{0} @PySem.Value (@PySem.Value.int (3 : Int) (0 : Nat)) (@List.cons.{0} @PySem.Value (@PySem.Value.ref (96 : Nat)) (@List.cons.{0} @PySem.Value (@PySem.Value.bool @Bool.true) (@List.cons.{0} @PySem.Value (@PySem.Value.int (181 : Int) (0 : Nat)) (@List.cons.{0} @PySem.Value (@PySem.Value.ref (97 : Nat)) (@List.cons.{0} @PySem.Value @PySem.Value.none (@List.cons.{0} @PySem.Value (@PySem.Value.ref (98 : Nat)) (@List.cons.{0} @PySem.Value (@PySem.Value.ref (99 : Nat)) (@List.cons.{0} @PySem.Value (@PySem.Value.ref (100 : Nat)) (@List.cons.{0} @PySem.Value (@PySem.Value.int (350 : Int) (0 : Nat)) (@List.cons.{0} @PySem.Value (@PySem.Value.int (94 : Int) (0 : Nat)) (@List.cons.{0} @PySem.Value (@PySem.Value.str ("/claim/cut.py" : Str) (351 : Nat)) (@List.nil.{0} @PySem.Value)))))))))))))))))))))) (@List.toArray.{0} (@Option.{0} @PySem.Value) (@List.nil.{0} (@Option.{0} @PySem.Value))))
noncomputable def ob102 (P : Params) : Obj := (@PySem.Obj.mk (@PySem.Value.type "function") (@Option.none.{0} @Nat) (@PySem.Data.func (@PySem.FuncData.mk ("has_all" : Str) ("RecvPart.has_all" : Str) (parsOf (stMeth 19 4)) (@PySem.FuncBody.stmts (bodyOf (stMeth 19 4))) (scopeOf (stMeth 19 4)) (3 : Nat) (@List.nil.{0} (@Prod.{0, 0} @PySem.Str @Nat)) @PySem.Value.none @PySem.Value.none @PySem.Value.none (@PySem.Value.str ("quic.recvpart" : Str) (277 : Nat)) (@Option.none.{0} @Nat) (@PySem.Value.ref (101 : Nat)) @PySem.Value.none (0 : Nat))) (@List.toArray.{0} (@Option.{0} @PySem.Value) (@List.nil.{0} (@Option.{0} @PySem.Value))))
noncomputable def ob108 (P : Params) : Obj := (@PySem.Obj.mk (@PySem.Value.type "code") (@Option.none.{0} @Nat) (@PySem.Data.fields (@List.toArray.{0} @PySem.Value (@List.cons.{0} @PySem.Value (@PySem.Value.str ("on_reset" : Str) (353 : Nat)) (@List.cons.{0} @PySem.Value (@PySem.Value.str ("RecvPart.on_reset" : Str) (354 : Nat)) (@List.cons.{0} @PySem.Value (@PySem.Value.str ("/claim/cut.py" : Str) (355 : Nat)) (@List.cons.{0} @PySem.Value (@PySem.Value.int (97 : Int) (0 : Nat)) (@List.cons.{0} @PySem.Value (@PySem.Value.int (3 : Int) (0 : Nat)) (@List.cons.{0} @PySem.Value (@PySem.Value.int (0 : Int) (0 : Nat)) (@List.cons.{0} @PySem.Value (@PySem.Value.int (0 : Int) (0 : Nat)) (@List.cons.{0} @PySem.Value (@PySem.Value.int (3 : Int) (0 : Nat)) (@List.cons.{0} @PySem.Value (@PySem.Value.ref (103 : Nat)) (@List.cons.{0} @PySem.Value (@PySem.Value.bool @Bool.true) (@List.cons.{0} @PySem.Value (@PySem.Value.int (181 : Int) (0 : Nat)) (@List.cons.{0} @PySem.Value (@PySem.Value.ref (104 : Nat)) (@List.cons.{0} @PySem.Value @PySem.Value.none (@List.cons.{0} @PySem.Value (@PySem.Value.ref (105 : Nat)) (@List.cons.{0} @PySem.Value (@PySem.Value.ref (106 : Nat)) (@List.cons.{0} @PySem.Value (@PySem.Value.ref (107 : Nat)) (@List.cons.{0} @PySem.Value (@PySem.Value.int (360 : Int) (0 : Nat)) (@List.cons.{0} @PySem.Value (@PySem.Value.int (97 : Int) (0 : Nat)) (@List.cons.{0} @PySem.Value (@PySem.Value.str ("/claim/cut.py" : Str) (361 : Nat)) (@List.nil.{0} @PySem.Value)))))))))))))))))))))) (@List.toArray.{0} (@Option.{0} @PySem.Value) (@List.nil.{0} (@Option.{0} @PySem.Value))))
noncomputable def ob109 (P : Params) : Obj := (@PySem.Obj.mk (@PySem.Value.type "function") (@Option.none.{0} @Nat) (@PySem.Data.func (@PySem.FuncData.mk ("on_reset" : Str) ("RecvPart.on_reset" : Str) (parsOf (stMeth 19 5)) (@PySem.FuncBody.stmts (bodyOf (stMeth 19 5))) (scopeOf (stMeth 19 5)) (3 : Nat) (@List.nil.{0} (@Prod.{0, 0} @PySem.Str @Nat)) @PySem.Value.none @PySem.Value.none @PySem.Value.none (@PySem.Value.str ("quic.recvpart" : Str) (277 : Nat)) (@Option.none.{0} @Nat) (@PySem.Value.ref (108 : Nat)) @PySem.Value.none (0 : Nat))) (@List.toArray.{0} (@Option.{0} @PySem.Value) (@List.nil.{0} (@Option.{0} @PySem.Value))))
noncomputable def ob115 (P : Params) : Obj := (@PySem.Obj.mk (@PySem.Value.type "code") (@Option.none.{0} @Nat) (@PySem.Data.fields (@List.toArray.{0} @PySem.Value (@List.cons.{0} @PySem.Value (@PySem.Value.str ("read" : Str) (363 : Nat)) (@List.cons.{0} @PySem.Value (@PySem.Value.str ("RecvPart.read" : Str) (364 : Nat)) (@List.cons.{0} @PySem.Value (@PySem.Value.str ("/claim/cut.py" : Str) (365 : Nat)) (@List.cons.{0} @PySem.Value (@PySem.Value.int (107 : Int) (0 : Nat)) (@List.cons.{0} @PySem.Value (@PySem.Value.int (2 : Int) (0 : Nat)) (@List.cons.{0} @PySem.Value (@PySem.Value.int (0 : Int) (0 : Nat)) (@List.cons.{0} @PySem.Value (@PySem.Value.int (0 : Int) (0 : Nat)) (@List.cons.{0} @PySem.Value (@PySem.Value.int (3 : Int) (0 : Nat)) (@List.cons.{0} @PySem.Value (@PySem.Value.ref (110 : Nat)) (@List.cons.{0} @PySem.Value (@PySem.Value.bool @Bool.true) (@List.cons.{0} @PySem.Value (@PySem.Value.int (181 : Int) (0 : Nat)) (@List.cons.{0} @PySem.Value (@PySem.Value.ref (111 : Nat)) (@List.cons.{0} @PySem.Value @PySem.Value.none (@List.cons.{0} @PySem.Value (@PySem.Value.ref (112 : Nat)) (@List.cons.{0} @PySem.Value (@PySem.Value.ref (113 : Nat)) (@List.cons.{0} @PySem.Value (@PySem.Value.ref (114 : Nat)) (@List.cons.{0} @PySem.Value (@PySem.Value.int (370 : Int) (0 : Nat)) (@List.cons.{0} @PySem.Value (@PySem.Value.int (107 : Int) (0 : Nat)) (@List.cons.{0} @PySem.Value (@PySem.Value.str ("/claim/cut.py" : Str) (371 : Nat)) (@List.nil.{0} @PySem.Value)))))))))))))))))))))) (@List.toArray.{0} (@Option.{0} @PySem.Value) (@List.nil.{0} (@Option.{0} @PySem.Value))))
noncomputable def ob116 (P : Params) : Obj := (@PySem.Obj.mk (@PySem.Value.type "function") (@Option.none.{0} @Nat) (@PySem.Data.func (@PySem.FuncData.mk ("read" : Str) ("RecvPart.read" : Str) (parsOf (stMeth 19 6)) (@PySem.FuncBody.stmts (bodyOf (stMeth 19 6))) (scopeOf (stMeth 19 6)) (3 : Nat) (@List.nil.{0} (@Prod.{0, 0} @PySem.Str @Nat)) @PySem.Value.none @PySem.Value.none @PySem.Value.none (@PySem.Value.str ("quic.recvpart" : Str) (277 : Nat)) (@Option.none.{0} @Nat) (@PySem.Value.ref (115 : Nat)) @PySem.Value.none (0 : Nat))) (@List.toArray.{0} (@Option.{0} @PySem.Value) (@List.nil.{0} (@Option.{0} @PySem.Value))))
noncomputable def ob122 (P : Params) : Obj := (@PySem.Obj.mk (@PySem.Value.type "code") (@Option.none.{0} @Nat) (@PySem.Data.fields (@List.toArray.{0} @PySem.Value (@List.cons.{0} @PySem.Value (@PySem.Value.str ("stop" : Str) (373 : Nat)) (@List.cons.{0} @PySem.Value (@PySem.Value.str ("RecvPart.stop" : Str) (374 : Nat)) (@List.cons.{0} @PySem.Value (@PySem.Value.str ("/claim/cut.py" : Str) (375 : Nat)) (@List.cons.{0} @PySem.Value (@PySem.Value.int (122 : Int) (0 : Nat)) (@List.cons.{0} @PySem.Value (@PySem.Value.int (2 : Int) (0 : Nat)) (@List.cons.{0} @PySem.Value (@PySem.Value.int (0 : Int) (0 : Nat)) (@List.cons.{0} @PySem.Value (@PySem.Value.int (0 : Int) (0 : Nat)) (@List.cons.{0} @PySem.Value (@PySem.Value.int (3 : Int) (0 : Nat)) (@List.cons.{0} @PySem.Value (@PySem.Value.ref (117 : Nat)) (@List.cons.{0} @PySem.Value (@PySem.Value.bool @Bool.true) (@List.cons.{0} @PySem.Value (@PySem.Value.int (181 : Int) (0 : Nat)) (@List.cons.{0} @PySem.Value (@PySem.Value.ref (118 : Nat)) (@List.cons.{0} @PySem.Value @PySem.Value.none (@List.cons.{0} @PySem.Value (@PySem.Value.ref (119 : Nat)) (@List.cons.{0} @PySem.Value (@PySem.Value.ref (120 : Nat)) (@List.cons.{0} @PySem.Value (@PySem.Value.ref (121 : Nat)) (@List.cons.{0} @PySem.Value (@PySem.Value.int (378 : Int) (0 : Nat)) (@List.cons.{0} @PySem.Value (@PySem.Value.int (122 : Int) (0 : Nat)) (@List.cons.{0} @PySem.Value (@PySem.Value.str ("/claim/cut.py" : Str) (379 : Nat)) (@List.nil.{0} @PySem.Value)))))))))))))))))))))) (@List.toArray.{0} (@Option.{0} @PySem.Value) (@List.nil.{0} (@Option.{0} @PySem.Value))))
noncomputable def ob123 (P : Params) : Obj := (@PySem.Obj.mk (@PySem.Value.type "function") (@Option.none.{0} @Nat) (@PySem.Data.func (@PySem.FuncData.mk ("stop" : Str) ("RecvPart.stop" : Str) (parsOf (stMeth 19 7)) (@PySem.FuncBody.stmts (bodyOf (stMeth 19 7))) (scopeOf (stMeth 19 7)) (3 : Nat) (@List.nil.{0} (@Prod.{0, 0} @PySem.Str @Nat)) @PySem.Value.none @PySem.Value.none @PySem.Value.none (@PySem.Value.str ("quic.recvpart" : Str) (277 : Nat)) (@Option.none.{0} @Nat) (@PySem.Value.ref (122 : Nat)) @PySem.Value.none (0 : Nat))) (@List.toArray.{0} (@Option.{0} @PySem.Value) (@List.nil.{0} (@Option.{0} @PySem.Value))))
noncomputable def ob129 (P : Params) : Obj := (@PySem.Obj.mk (@PySem.Value.type "code") (@Option.none.{0} @Nat) (@PySem.Data.fields (@List.toArray.{0} @PySem.Value (@List.cons.{0} @PySem.Value (@PySem.Value.str ("raise_limit" : Str) (381 : Nat)) (@List.cons.{0} @PySem.Value (@PySem.Value.str ("RecvPart.raise_limit" : Str) (382 : Nat)) (@List.cons.{0} @PySem.Value (@PySem.Value.str ("/claim/cut.py" : Str) (383 : Nat)) (@List.cons.{0} @PySem.Value (@PySem.Value.int (129 : Int) (0 : Nat)) (@List.cons.{0} @PySem.Value (@PySem.Value.int (2 : Int) (0 : Nat)) (@List.cons.{0} @PySem.Value (@PySem.Value.int (0 : Int) (0 : Nat)) (@List.cons.{0} @PySem.Value (@PySem.Value.int (0 : Int) (0 : Nat)) (@List.cons.{0} @PySem.Value (@PySem.Value.int (3 : Int) (0 : Nat)) (@List.cons.{0} @PySem.Value (@PySem.Value.ref (124 : Nat)) (@List.cons.{0} @PySem.Value (@PySem.Value.bool @Bool.true) (@List.cons.{0} @PySem.Value (@PySem.Value.int (181 : Int) (0 : Nat)) (@List.cons.{0} @PySem.Value (@PySem.Value.ref (125 : Nat)) (@List.cons.{0} @PySem.Value @PySem.Value.none (@List.cons.{0} @PySem.Value (@PySem.Value.ref (126 : Nat)) (@List.cons.{0} @PySem.Value (@PySem.Value.ref (127 : Nat)) (@List.cons.{0} @PySem.Value (@PySem.Value.ref (128 : Nat)) (@List.cons.{0} @PySem.Value (@PySem.Value.int (386 : Int) (0 : Nat)) (@List.cons.{0} @PySem.Value (@PySem.Value.int (129 : Int) (0 : Nat)) (@List.cons.{0} @PySem.Value (@PySem.Value.str ("/claim/cut.py" : Str) (387 : Nat)) (@List.nil.{0} @PySem.Value)))))))))))))))))))))) (@List.toArray.{0} (@Option.{0} @PySem.Value) (@List.nil.{0} (@Option.{0} @PySem.Value))))
noncomputable def ob130 (P : Params) : Obj := (@PySem.Obj.mk (@PySem.Value.type "function") (@Option.none.{0} @Nat) (@PySem.Data.func (@PySem.FuncData.mk ("raise_limit" : Str) ("RecvPart.raise_limit" : Str) (parsOf (stMeth 19 8)) (@PySem.FuncBody.stmts (bodyOf (stMeth 19 8))) (scopeOf (stMeth 19 8)) (3 : Nat) (@List.nil.{0} (@Prod.{0, 0} @PySem.Str @Nat)) @PySem.Value.none @PySem.Value.none @PySem.Value.none (@PySem.Value.str ("quic.recvpart" : Str) (277 : Nat)) (@Option.none.{0} @Nat) (@PySem.Value.ref (129 : Nat)) @PySem.Value.none (0 : Nat))) (@List.toArray.{0} (@Option.{0} @PySem.Value) (@List.nil.{0} (@Option.{0} @PySem.Value))))
noncomputable def ob136 (P : Params) : Obj := (@PySem.Obj.mk (@PySem.Value.type "code") (@Option.none.{0} @Nat) (@PySem.Data.fields (@List.toArray.{0} @PySem.Value (@List.cons.{0} @PySem.Value (@PySem.Value.str ("used_to" : Str) (389 : Nat)) (@List.cons.{0} @PySem.Value (@PySem.Value.str ("RecvPart.used_to" : Str) (390 : Nat)) (@List.cons.{0} @PySem.Value (@PySem.Value.str ("/claim/cut.py" : Str) (391 : Nat)) (@List.cons.{0} @PySem.Value (@PySem.Value.int (132 : Int) (0 : Nat)) (@List.cons.{0} @PySem.Value (@PySem.Value.int (1 : Int) (0 : Nat)) (@List.cons.{0} @PySem.Value (@PySem.Value.int (0 : Int) (0 : Nat)) (@List.cons.{0} @PySem.Value (@PySem.Value.int (0 : Int) (0 : Nat)) (@List.cons.{0} @PySem.Value (@PySem.Value.int (3 : Int) (0 : Nat)) (@List.cons.{0} @PySem.Value (@PySem.Value.ref (131 : Nat)) (@List.cons.{0} @PySem.Value (@PySem.Value.bool @Bool.true) (@List.cons.{0} @PySem.Value (@PySem.Value.int (181 : Int) (0 : Nat)) (@List.cons.{0} @PySem.Value (@PySem.Value.ref (132 : Nat)) (@List.cons.{0} @PySem.Value @PySem.Value.none (@List.cons.{0} @PySem.Value (@PySem.Value.ref (133 : Nat)) (@List.cons.{0} @PySem.Value (@PySem.Value.ref (134 : Nat)) (@List.cons.{0} @PySem.Value (@PySem.Value.ref (135 : Nat)) (@List.cons.{0} @PySem.Value (@PySem.Value.int (393 : Int) (0 : Nat)) (@List.cons.{0} @PySem.Value (@PySem.Value.int (132 : Int) (0 : Nat)) (@List.cons.{0} @PySem.Value (@PySem.Value.str ("/claim/cut.py" : Str) (394 : Nat)) (@List.nil.{0} @PySem.Value)))))))))))))))))))))) (@List.toArray.{0} (@Option.{0} @PySem.Value) (@List.nil.{0} (@Option.{0} @PySem.Value))))
noncomputable def ob137 (P : Params) : Obj := (@PySem.Obj.mk (@PySem.Value.type "function") (@Option.none.{0} @Nat) (@PySem.Data.func (@PySem.FuncData.mk ("used_to" : Str) ("RecvPart.used_to" : Str) (parsOf (stMeth 19 9)) (@PySem.FuncBody.stmts (bodyOf (stMeth 19 9))) (scopeOf (stMeth 19 9)) (3 : Nat) (@List.nil.{0} (@Prod.{0, 0} @PySem.Str @Nat)) @PySem.Value.none @PySem.Value.none @PySem.Value.none (@PySem.Value.str ("quic.recvpart" : Str) (277 : Nat)) (@Option.none.{0} @Nat) (@PySem.Value.ref (136 : Nat)) @PySem.Value.none (0 : Nat))) (@List.toArray.{0} (@Option.{0} @PySem.Value) (@List.nil.{0} (@Option.{0} @PySem.Value))))
noncomputable def ob143 (P : Params) : Obj := (@PySem.Obj.mk (@PySem.Value.type "code") (@Option.none.{0} @Nat) (@PySem.Data.fields (@List.toArray.{0} @PySem.Value (@List.cons.{0} @PySem.Value (@PySem.Value.str ("is_over" : Str) (396 : Nat)) (@List.cons.{0} @PySem.Value (@PySem.Value.str ("RecvPart.is_over" : Str) (397 : Nat)) (@List.cons.{0} @PySem.Value (@PySem.Value.str ("/claim/cut.py" : Str) (398 : Nat)) (@List.cons.{0} @PySem.Value (@PySem.Value.int (137 : Int) (0 : Nat)) (@List.cons.{0} @PySem.Value (@PySem.Value.int (1 : Int) (0 : Nat)) (@List.cons.{0} @PySem.Value (@PySem.Value.int (0 : Int) (0 : Nat)) (@List.cons.{0} @PySem.Value (@PySem.Value.int (0 : Int) (0 : Nat)) (@List.cons.{0} @PySem.Value (@PySem.Value.int (3 : Int) (0 : Nat)) (@List.cons.{0} @PySem.Value (@PySem.Value.ref (138 : Nat)) (@List.cons.{0} @PySem.Value (@PySem.Value.bool @Bool.true) (@List.cons.{0} @PySem.Value (@PySem.Value.int (181 : Int) (0 : Nat)) (@List.cons.{0} @PySem.Value (@PySem.Value.ref (139 : Nat)) (@List.cons.{0} @PySem.Value @PySem.Value.none (@List.cons.{0} @PySem.Value (@PySem.Value.ref (140 : Nat)) (@List.cons.{0} @PySem.Value (@PySem.Value.ref (141 : Nat)) (@List.cons.{0} @PySem.Value (@PySem.Value.ref (142 : Nat)) (@List.cons.{0} @PySem.Value (@PySem.Value.int (400 : Int) (0 : Nat)) (@List.cons.{0} @PySem.Value (@PySem.Value.int (137 : Int) (0 : Nat)) (@List.cons.{0} @PySem.Value (@PySem.Value.str ("/claim/cut.py" : Str) (401 : Nat)) (@List.nil.{0} @PySem.Value)))))))))))))))))))))) (@List.toArray.{0} (@Option.{0} @PySem.Value) (@List.nil.{0} (@Option.{0} @PySem.Value))))
noncomputable def ob144 (P : Params) : Obj := (@PySem.Obj.mk (@PySem.Value.type "function") (@Option.none.{0} @Nat) (@PySem.Data.func (@PySem.FuncData.mk ("is_over" : Str) ("RecvPart.is_over" : Str) (parsOf (stMeth 19 10)) (@PySem.FuncBody.stmts (bodyOf (stMeth 19 10))) (scopeOf (stMeth 19 10)) (3 : Nat) (@List.nil.{0} (@Prod.{0, 0} @PySem.Str @Nat)) @PySem.Value.none @PySem.Value.none @PySem.Value.none (@PySem.Value.str ("quic.recvpart" : Str) (277 : Nat)) (@Option.none.{0} @Nat) (@PySem.Value.ref (143 : Nat)) @PySem.Value.none (0 : Nat))) (@List.toArray.{0} (@Option.{0} @PySem.Value) (@List.nil.{0} (@Option.{0} @PySem.Value))))
noncomputable def ob146 (P : Params) : Obj := (@PySem.Obj.mk (@PySem.Value.type "dict") (@Option.none.{0} @Nat) (@PySem.Data.dict (@List.toArray.{0} @PySem.DictEntry (@List.cons.{0} @PySem.DictEntry (@PySem.DictEntry.mk (@PySem.PyData.keyHash P ("__module__" : Str)) (@PySem.Value.str ("__module__" : Str) (302 : Nat)) (@PySem.Value.str ("quic.recvpart" : Str) (277 : Nat))) (@List.cons.{0} @PySem.DictEntry (@PySem.DictEntry.mk (@PySem.PyData.keyHash P ("__firstlineno__" : Str)) (@PySem.Value.str ("__firstlineno__" : Str) (306 : Nat)) (@PySem.Value.int (52 : Int) (305 : Nat))) (@List.cons.{0} @PySem.DictEntry (@PySem.DictEntry.mk (@PySem.PyData.keyHash P ("__init__" : Str)) (@PySem.Value.str ("__init__" : Str) (314 : Nat)) (@PySem.Value.ref (74 : Nat))) (@List.cons.{0} @PySem.DictEntry (@PySem.DictEntry.mk (@PySem.PyData.keyHash P ("check_end" : Str)) (@PySem.Value.str ("check_end" : Str) (324 : Nat)) (@PySem.Value.ref (81 : Nat))) (@List.cons.{0} @PySem.DictEntry (@PySem.DictEntry.mk (@PySem.PyData.keyHash P ("grown" : Str)) (@PySem.Value.str ("grown" : Str) (333 : Nat)) (@PySem.Value.ref (88 : Nat))) (@List.cons.{0} @PySem.DictEntry (@PySem.DictEntry.mk (@PySem.PyData.keyHash P ("on_stream" : Str)) (@PySem.Value.str ("on_stream" : Str) (345 : Nat)) (@PySem.Value.ref (95 : Nat))) (@List.cons.{0} @PySem.DictEntry (@PySem.DictEntry.mk (@PySem.PyData.keyHash P ("has_all" : Str)) (@PySem.Value.str ("has_all" : Str) (352 : Nat)) (@PySem.Value.ref (102 : Nat))) (@List.cons.{0} @PySem.DictEntry (@PySem.DictEntry.mk (@PySem.PyData.keyHash P ("on_reset" : Str)) (@PySem.Value.str ("on_reset" : Str) (362 : Nat)) (@PySem.Value.ref (109 : Nat))) (@List.cons.{0} @PySem.DictEntry (@PySem.DictEntry.mk (@PySem.PyData.keyHash P ("read" : Str)) (@PySem.Value.str ("read" : Str) (372 : Nat)) (@PySem.Value.ref (116 : Nat))) (@List.cons.{0} @PySem.DictEntry (@PySem.DictEntry.mk (@PySem.PyData.keyHash P ("stop" : Str)) (@PySem.Value.str ("stop" : Str) (380 : Nat)) (@PySem.Value.ref (123 : Nat))) (@List.cons.{0} @PySem.DictEntry (@PySem.DictEntry.mk (@PySem.PyData.keyHash P ("raise_limit" : Str)) (@PySem.Value.str ("raise_limit" : Str) (388 : Nat)) (@PySem.Value.ref (130 : Nat))) (@List.cons.{0} @PySem.DictEntry (@PySem.DictEntry.mk (@PySem.PyData.keyHash P ("used_to" : Str)) (@PySem.Value.str ("used_to" : Str) (395 : Nat)) (@PySem.Value.ref (137 : Nat))) (@List.cons.{0} @PySem.DictEntry (@PySem.DictEntry.mk (@PySem.PyData.keyHash P ("is_over" : Str)) (@PySem.Value.str ("is_over" : Str) (402 : Nat)) (@PySem.Value.ref (144 : Nat))) (@List.cons.{0} @PySem.DictEntry (@PySem.DictEntry.mk (@PySem.PyData.keyHash P ("__static_attributes__" : Str)) (@PySem.Value.str ("__static_attributes__" : Str) (411 : Nat)) (@PySem.Value.ref (145 : Nat))) (@List.cons.{0} @PySem.DictEntry (@PySem.DictEntry.mk (@PySem.PyData.keyHash P ("__dict__" : Str)) (@PySem.Value.str ("__dict__" : Str) (413 : Nat)) (@PySem.Value.ref (148 : Nat))) (@List.cons.{0} @PySem.DictEntry (@PySem.DictEntry.mk (@PySem.PyData.keyHash P ("__weakref__" : Str)) (@PySem.Value.str ("__weakref__" : Str) (415 : Nat)) (@PySem.Value.ref (149 : Nat))) (@List.cons.{0} @PySem.DictEntry (@PySem.DictEntry.mk (@PySem.PyData.keyHash P ("__doc__" : Str)) (@PySem.Value.str ("__doc__" : Str) (416 : Nat)) @PySem.Value.none) (@List.nil.{0} @PySem.DictEntry))))))))))))))))))) (4 : Nat)) (@List.toArray.{0} (@Option.{0} @PySem.Value) (@List.nil.{0} (@Option.{0} @PySem.Value))))
noncomputable def ob147 (P : Params) : Obj := (@PySem.Obj.mk (@PySem.Value.type "type") (@Option.none.{0} @Nat) (@PySem.Data.cls (@PySem.ClassData.mk ("RecvPart" : Str) (@List.cons.{0} @PySem.Value (@PySem.Value.type "object") (@List.nil.{0} @PySem.Value)) (@List.cons.{0} @PySem.Value (@PySem.Value.ref (147 : Nat)) (@List.cons.{0} @PySem.Value (@PySem.Value.type "object") (@List.nil.{0} @PySem.Value))) (146 : Nat) ("RecvPart" : Str) @Bool.true (@List.nil.{0} @PySem.Str) (@List.nil.{0} @PySem.Value) @Bool.false (@Option.none.{0} @Bool) @Bool.false)) (@List.toArray.{0} (@Option.{0} @PySem.Value) (@List.cons.{0} (@Option.{0} @PySem.Value) (@Option.none.{0} @PySem.Value) (@List.cons.{0} (@Option.{0} @PySem.Value) (@Option.none.{0} @PySem.Value) (@List.cons.{0} (@Option.{0} @PySem.Value) (@Option.some.{0} @PySem.Value (@PySem.Value.str ("RecvPart" : Str) (295 : Nat))) (@List.cons.{0} (@Option.{0} @PySem.Value) (@Option.some.{0} @PySem.Value (@PySem.Value.str ("RecvPart" : Str) (303 : Nat))) (@List.cons.{0} (@Option.{0} @PySem.Value) (@Option.some.{0} @PySem.Value (@PySem.Value.builtin "object.__new__")) (@List.cons.{0} (@Option.{0} @PySem.Value) (@Option.some.{0} @PySem.Value (@PySem.Value.bool @Bool.true)) (@List.nil.{0} (@Option.{0} @PySem.Value))))))))))
noncomputable def ob148 (P : Params) : Obj := (@PySem.Obj.mk (@PySem.Value.type "getset_descriptor") (@Option.none.{0} @Nat) (@PySem.Data.fields (@List.toArray.{0} @PySem.Value (@List.cons.{0} @PySem.Value (@PySem.Value.str ("__dict__" : Str) (412 : Nat)) (@List.cons.{0} @PySem.Value (@PySem.Value.ref (147 : Nat)) (@List.cons.{0} @PySem.Value (@PySem.Value.builtin "function.__dict__") (@List.cons.{0} @PySem.Value (@PySem.Value.builtin "function.__dict__#set") (@List.nil.{0} @PySem.Value))))))) (@List.toArray.{0} (@Option.{0} @PySem.Value) (@List.nil.{0} (@Option.{0} @PySem.Value))))
noncomputable def ob149 (P : Params) : Obj := (@PySem.Obj.mk (@PySem.Value.type "getset_descriptor") (@Option.none.{0} @Nat) (@PySem.Data.fields (@List.toArray.{0} @PySem.Value (@List.cons.{0} @PySem.Value (@PySem.Value.str ("__weakref__" : Str) (414 : Nat)) (@List.cons.{0} @PySem.Value (@PySem.Value.ref (147 : Nat)) (@List.cons.{0} @PySem.Value (@PySem.Value.builtin "ExceptionGroup.__weakref__") (@List.cons.{0} @PySem.Value @PySem.Value.none (@List.nil.{0} @PySem.Value))))))) (@List.toArray.{0} (@Option.{0} @PySem.Value) (@List.nil.{0} (@Option.{0} @PySem.Value))))
noncomputable def ob157 (P : Params) : Obj := (@PySem.Obj.mk (@PySem.Value.type "code") (@Option.none.{0} @Nat) (@PySem.Data.fields (@List.toArray.{0} @PySem.Value (@List.cons.{0} @PySem.Value (@PySem.Value.str ("_law_states" : Str) (421 : Nat)) (@List.cons.{0} @PySem.Value (@PySem.Value.str ("_law_states" : Str) (422 : Nat)) (@List.cons.{0} @PySem.Value (@PySem.Value.str ("/claim/cut.py" : Str) (423 : Nat)) (@List.cons.{0} @PySem.Value (@PySem.Value.int (140 : Int) (0 : Nat)) (@List.cons.{0} @PySem.Value (@PySem.Value.int (0 : Int) (0 : Nat)) (@List.cons.{0} @PySem.Value (@PySem.Value.int (0 : Int) (0 : Nat)) (@List.cons.{0} @PySem.Value (@PySem.Value.int (0 : Int) (0 : Nat)) (@List.cons.{0} @PySem.Value (@PySem.Value.int (3 : Int) (0 : Nat)) (@List.cons.{0} @PySem.Value (@PySem.Value.ref (152 : Nat)) (@List.cons.{0} @PySem.Value (@PySem.Value.bool @Bool.true) (@List.cons.{0} @PySem.Value (@PySem.Value.int (181 : Int) (0 : Nat)) (@List.cons.{0} @PySem.Value (@PySem.Value.ref (153 : Nat)) (@List.cons.{0} @PySem.Value @PySem.Value.none (@List.cons.{0} @PySem.Value (@PySem.Value.ref (154 : Nat)) (@List.cons.{0} @PySem.Value (@PySem.Value.ref (155 : Nat)) (@List.cons.{0} @PySem.Value (@PySem.Value.ref (156 : Nat)) (@List.cons.{0} @PySem.Value (@PySem.Value.int (424 : Int) (0 : Nat)) (@List.cons.{0} @PySem.Value (@PySem.Value.int (140 : Int) (0 : Nat)) (@List.cons.{0} @PySem.Value (@PySem.Value.str ("/claim/cut.py" : Str) (425 : Nat)) (@List.nil.{0} @PySem.Value)))))))))))))))))))))) (@List.toArray.{0} (@Option.{0} @PySem.Value) (@List.nil.{0} (@Option.{0} @PySem.Value))))
noncomputable def ob158 (P : Params) : Obj := (@PySem.Obj.mk (@PySem.Value.type "function") (@Option.none.{0} @Nat) (@PySem.Data.func (@PySem.FuncData.mk ("_law_states" : Str) ("_law_states" : Str) (parsOf (top 21)) (@PySem.FuncBody.stmts (bodyOf (top 21))) (scopeOf (top 21)) (3 : Nat) (@List.nil.{0} (@Prod.{0, 0} @PySem.Str @Nat)) @PySem.Value.none @PySem.Value.none @PySem.Value.none (@PySem.Value.str ("law_pf0256_01" : Str) (419 : Nat)) (@Option.none.{0} @Nat) (@PySem.Value.ref (157 : Nat)) @PySem.Value.none (0 : Nat))) (@List.toArray.{0} (@Option.{0} @PySem.Value) (@List.nil.{0} (@Option.{0} @PySem.Value))))
noncomputable def ob164 (P : Params) : Obj := (@PySem.Obj.mk (@PySem.Value.type "code") (@Option.none.{0} @Nat) (@PySem.Data.fields (@List.toArray.{0} @PySem.Value (@List.cons.{0} @PySem.Value (@PySem.Value.str ("_law_next" : Str) (427 : Nat)) (@List.cons.{0} @PySem.Value (@PySem.Value.str ("_law_next" : Str) (428 : Nat)) (@List.cons.{0} @PySem.Value (@PySem.Value.str ("/claim/cut.py" : Str) (429 : Nat)) (@List.cons.{0} @PySem.Value (@PySem.Value.int (142 : Int) (0 : Nat)) (@List.cons.{0} @PySem.Value (@PySem.Value.int (2 : Int) (0 : Nat)) (@List.cons.{0} @PySem.Value (@PySem.Value.int (0 : Int) (0 : Nat)) (@List.cons.{0} @PySem.Value (@PySem.Value.int (0 : Int) (0 : Nat)) (@List.cons.{0} @PySem.Value (@PySem.Value.int (3 : Int) (0 : Nat)) (@List.cons.{0} @PySem.Value (@PySem.Value.ref (159 : Nat)) (@List.cons.{0} @PySem.Value (@PySem.Value.bool @Bool.true) (@List.cons.{0} @PySem.Value (@PySem.Value.int (181 : Int) (0 : Nat)) (@List.cons.{0} @PySem.Value (@PySem.Value.ref (160 : Nat)) (@List.cons.{0} @PySem.Value @PySem.Value.none (@List.cons.{0} @PySem.Value (@PySem.Value.ref (161 : Nat)) (@List.cons.{0} @PySem.Value (@PySem.Value.ref (162 : Nat)) (@List.cons.{0} @PySem.Value (@PySem.Value.ref (163 : Nat)) (@List.cons.{0} @PySem.Value (@PySem.Value.int (432 : Int) (0 : Nat)) (@List.cons.{0} @PySem.Value (@PySem.Value.int (142 : Int) (0 : Nat)) (@List.cons.{0} @PySem.Value (@PySem.Value.str ("/claim/cut.py" : Str) (433 : Nat)) (@List.nil.{0} @PySem.Value)))))))))))))))))))))) (@List.toArray.{0} (@Option.{0} @PySem.Value) (@List.nil.{0} (@Option.{0} @PySem.Value))))
noncomputable def ob165 (P : Params) : Obj := (@PySem.Obj.mk (@PySem.Value.type "function") (@Option.none.{0} @Nat) (@PySem.Data.func (@PySem.FuncData.mk ("_law_next" : Str) ("_law_next" : Str) (parsOf (top 22)) (@PySem.FuncBody.stmts (bodyOf (top 22))) (scopeOf (top 22)) (3 : Nat) (@List.nil.{0} (@Prod.{0, 0} @PySem.Str @Nat)) @PySem.Value.none @PySem.Value.none @PySem.Value.none (@PySem.Value.str ("law_pf0256_01" : Str) (419 : Nat)) (@Option.none.{0} @Nat) (@PySem.Value.ref (164 : Nat)) @PySem.Value.none (0 : Nat))) (@List.toArray.{0} (@Option.{0} @PySem.Value) (@List.nil.{0} (@Option.{0} @PySem.Value))))
noncomputable def ob171 (P : Params) : Obj := (@PySem.Obj.mk (@PySem.Value.type "code") (@Option.none.{0} @Nat) (@PySem.Data.fields (@List.toArray.{0} @PySem.Value (@List.cons.{0} @PySem.Value (@PySem.Value.str ("_law_led" : Str) (435 : Nat)) (@List.cons.{0} @PySem.Value (@PySem.Value.str ("_law_led" : Str) (436 : Nat)) (@List.cons.{0} @PySem.Value (@PySem.Value.str ("/claim/cut.py" : Str) (437 : Nat)) (@List.cons.{0} @PySem.Value (@PySem.Value.int (147 : Int) (0 : Nat)) (@List.cons.{0} @PySem.Value (@PySem.Value.int (2 : Int) (0 : Nat)) (@List.cons.{0} @PySem.Value (@PySem.Value.int (0 : Int) (0 : Nat)) (@List.cons.{0} @PySem.Value (@PySem.Value.int (0 : Int) (0 : Nat)) (@List.cons.{0} @PySem.Value (@PySem.Value.int (3 : Int) (0 : Nat)) (@List.cons.{0} @PySem.Value (@PySem.Value.ref (166 : Nat)) (@List.cons.{0} @PySem.Value (@PySem.Value.bool @Bool.true) (@List.cons.{0} @PySem.Value (@PySem.Value.int (181 : Int) (0 : Nat)) (@List.cons.{0} @PySem.Value (@PySem.Value.ref (167 : Nat)) (@List.cons.{0} @PySem.Value @PySem.Value.none (@List.cons.{0} @PySem.Value (@PySem.Value.ref (168 : Nat)) (@List.cons.{0} @PySem.Value (@PySem.Value.ref (169 : Nat)) (@List.cons.{0} @PySem.Value (@PySem.Value.ref (170 : Nat)) (@List.cons.{0} @PySem.Value (@PySem.Value.int (441 : Int) (0 : Nat)) (@List.cons.{0} @PySem.Value (@PySem.Value.int (147 : Int) (0 : Nat)) (@List.cons.{0} @PySem.Value (@PySem.Value.str ("/claim/cut.py" : Str) (442 : Nat)) (@List.nil.{0} @PySem.Value)))))))))))))))))))))) (@List.toArray.{0} (@Option.{0} @PySem.Value) (@List.nil.{0} (@Option.{0} @PySem.Value))))
noncomputable def ob172 (P : Params) : Obj := (@PySem.Obj.mk (@PySem.Value.type "function") (@Option.none.{0} @Nat) (@PySem.Data.func (@PySem.FuncData.mk ("_law_led" : Str) ("_law_led" : Str) (parsOf (top 23)) (@PySem.FuncBody.stmts (bodyOf (top 23))) (scopeOf (top 23)) (3 : Nat) (@List.nil.{0} (@Prod.{0, 0} @PySem.Str @Nat)) @PySem.Value.none @PySem.Value.none @PySem.Value.none (@PySem.Value.str ("law_pf0256_01" : Str) (419 : Nat)) (@Option.none.{0} @Nat) (@PySem.Value.ref (171 : Nat)) @PySem.Value.none (0 : Nat))) (@List.toArray.{0} (@Option.{0} @PySem.Value) (@List.nil.{0} (@Option.{0} @PySem.Value))))
noncomputable def ob178 (P : Params) : Obj := (@PySem.Obj.mk (@PySem.Value.type "code") (@Option.none.{0} @Nat) (@PySem.Data.fields (@List.toArray.{0} @PySem.Value (@List.cons.{0} @PySem.Value (@PySem.Value.str ("_law_told" : Str) (444 : Nat)) (@List.cons.{0} @PySem.Value (@PySem.Value.str ("_law_told" : Str) (445 : Nat)) (@List.cons.{0} @PySem.Value (@PySem.Value.str ("/claim/cut.py" : Str) (446 : Nat)) (@List.cons.{0} @PySem.Value (@PySem.Value.int (160 : Int) (0 : Nat)) (@List.cons.{0} @PySem.Value (@PySem.Value.int (1 : Int) (0 : Nat)) (@List.cons.{0} @PySem.Value (@PySem.Value.int (0 : Int) (0 : Nat)) (@List.cons.{0} @PySem.Value (@PySem.Value.int (0 : Int) (0 : Nat)) (@List.cons.{0} @PySem.Value (@PySem.Value.int (3 : Int) (0 : Nat)) (@List.cons.{0} @PySem.Value (@PySem.Value.ref (173 : Nat)) (@List.cons.{0} @PySem.Value (@PySem.Value.bool @Bool.true) (@List.cons.{0} @PySem.Value (@PySem.Value.int (181 : Int) (0 : Nat)) (@List.cons.{0} @PySem.Value (@PySem.Value.ref (174 : Nat)) (@List.cons.{0} @PySem.Value @PySem.Value.none (@List.cons.{0} @PySem.Value (@PySem.Value.ref (175 : Nat)) (@List.cons.{0} @PySem.Value (@PySem.Value.ref (176 : Nat)) (@List.cons.{0} @PySem.Value (@PySem.Value.ref (177 : Nat)) (@List.cons.{0} @PySem.Value (@PySem.Value.int (449 : Int) (0 : Nat)) (@List.cons.{0} @PySem.Value (@PySem.Value.int (160 : Int) (0 : Nat)) (@List.cons.{0} @PySem.Value (@PySem.Value.str ("/claim/cut.py" : Str) (450 : Nat)) (@List.nil.{0} @PySem.Value)))))))))))))))))))))) (@List.toArray.{0} (@Option.{0} @PySem.Value) (@List.nil.{0} (@Option.{0} @PySem.Value))))
noncomputable def ob179 (P : Params) : Obj := (@PySem.Obj.mk (@PySem.Value.type "function") (@Option.none.{0} @Nat) (@PySem.Data.func (@PySem.FuncData.mk ("_law_told" : Str) ("_law_told" : Str) (parsOf (top 24)) (@PySem.FuncBody.stmts (bodyOf (top 24))) (scopeOf (top 24)) (3 : Nat) (@List.nil.{0} (@Prod.{0, 0} @PySem.Str @Nat)) @PySem.Value.none @PySem.Value.none @PySem.Value.none (@PySem.Value.str ("law_pf0256_01" : Str) (419 : Nat)) (@Option.none.{0} @Nat) (@PySem.Value.ref (178 : Nat)) @PySem.Value.none (0 : Nat))) (@List.toArray.{0} (@Option.{0} @PySem.Value) (@List.nil.{0} (@Option.{0} @PySem.Value))))
noncomputable def ob185 (P : Params) : Obj := (@PySem.Obj.mk (@PySem.Value.type "code") (@Option.none.{0} @Nat) (@PySem.Data.fields (@List.toArray.{0} @PySem.Value (@List.cons.{0} @PySem.Value (@PySem.Value.str ("_law_refused" : Str) (452 : Nat)) (@List.cons.{0} @PySem.Value (@PySem.Value.str ("_law_refused" : Str) (453 : Nat)) (@List.cons.{0} @PySem.Value (@PySem.Value.str ("/claim/cut.py" : Str) (454 : Nat)) (@List.cons.{0} @PySem.Value (@PySem.Value.int (165 : Int) (0 : Nat)) (@List.cons.{0} @PySem.Value (@PySem.Value.int (4 : Int) (0 : Nat)) (@List.cons.{0} @PySem.Value (@PySem.Value.int (0 : Int) (0 : Nat)) (@List.cons.{0} @PySem.Value (@PySem.Value.int (0 : Int) (0 : Nat)) (@List.cons.{0} @PySem.Value (@PySem.Value.int (3 : Int) (0 : Nat)) (@List.cons.{0} @PySem.Value (@PySem.Value.ref (180 : Nat)) (@List.cons.{0} @PySem.Value (@PySem.Value.bool @Bool.true) (@List.cons.{0} @PySem.Value (@PySem.Value.int (181 : Int) (0 : Nat)) (@List.cons.{0} @PySem.Value (@PySem.Value.ref (181 : Nat)) (@List.cons.{0} @PySem.Value @PySem.Value.none (@List.cons.{0} @PySem.Value (@PySem.Value.ref (182 : Nat)) (@List.cons.{0} @PySem.Value (@PySem.Value.ref (183 : Nat)) (@List.cons.{0} @PySem.Value (@PySem.Value.ref (184 : Nat)) (@List.cons.{0} @PySem.Value (@PySem.Value.int (460 : Int) (0 : Nat)) (@List.cons.{0} @PySem.Value (@PySem.Value.int (165 : Int) (0 : Nat)) (@List.cons.{0} @PySem.Value (@PySem.Value.str ("/claim/cut.py" : Str) (461 : Nat)) (@List.nil.{0} @PySem.Value)))))))))))))))))))))) (@List.toArray.{0} (@Option.{0} @PySem.Value) (@List.nil.{0} (@Option.{0} @PySem.Value))))
noncomputable def ob186 (P : Params) : Obj := (@PySem.Obj.mk (@PySem.Value.type "function") (@Option.none.{0} @Nat) (@PySem.Data.func (@PySem.FuncData.mk ("_law_refused" : Str) ("_law_refused" : Str) (parsOf (top 25)) (@PySem.FuncBody.stmts (bodyOf (top 25))) (scopeOf (top 25)) (3 : Nat) (@List.nil.{0} (@Prod.{0, 0} @PySem.Str @Nat)) @PySem.Value.none @PySem.Value.none @PySem.Value.none (@PySem.Value.str ("law_pf0256_01" : Str) (419 : Nat)) (@Option.none.{0} @Nat) (@PySem.Value.ref (185 : Nat)) @PySem.Value.none (0 : Nat))) (@List.toArray.{0} (@Option.{0} @PySem.Value) (@List.nil.{0} (@Option.{0} @PySem.Value))))
noncomputable def ob190 (P : Params) : Obj := (@PySem.Obj.mk (@PySem.Value.type "code") (@Option.none.{0} @Nat) (@PySem.Data.fields (@List.toArray.{0} @PySem.Value (@List.cons.{0} @PySem.Value (@PySem.Value.str ("_law_stream_right" : Str) (463 : Nat)) (@List.cons.{0} @PySem.Value (@PySem.Value.str ("_law_stream_right" : Str) (464 : Nat)) (@List.cons.{0} @PySem.Value (@PySem.Value.str ("/claim/cut.py" : Str) (465 : Nat)) (@List.cons.{0} @PySem.Value (@PySem.Value.int (170 : Int) (0 : Nat)) (@List.cons.{0} @PySem.Value (@PySem.Value.int (5 : Int) (0 : Nat)) (@List.cons.{0} @PySem.Value (@PySem.Value.int (0 : Int) (0 : Nat)) (@List.cons.{0} @PySem.Value (@PySem.Value.int (0 : Int) (0 : Nat)) (@List.cons.{0} @PySem.Value (@PySem.Value.int (3 : Int) (0 : Nat)) (@List.cons.{0} @PySem.Value (@PySem.Value.ref (187 : Nat)) (@List.cons.{0} @PySem.Value (@PySem.Value.bool @Bool.true) (@List.cons.{0} @PySem.Value (@PySem.Value.int (181 : Int) (0 : Nat)) (@List.cons.{0} @PySem.Value (@PySem.Value.ref (188 : Nat)) (@List.cons.{0} @PySem.Value @PySem.Value.none (@List.cons.{0} @PySem.Value @PySem.Value.none (@List.cons.{0} @PySem.Value @PySem.Value.none (@List.cons.{0} @PySem.Value (@PySem.Value.ref (189 : Nat)) (@List.cons.{0} @PySem.Value (@PySem.Value.int (466 : Int) (0 : Nat)) (@List.cons.{0} @PySem.Value (@PySem.Value.int (170 : Int) (0 : Nat)) (@List.cons.{0} @PySem.Value (@PySem.Value.str ("/claim/cut.py" : Str) (467 : Nat)) (@List.nil.{0} @PySem.Value)))))))))))))))))))))) (@List.toArray.{0} (@Option.{0} @PySem.Value) (@List.nil.{0} (@Option.{0} @PySem.Value))))
noncomputable def ob191 (P : Params) : Obj := (@PySem.Obj.mk (@PySem.Value.type "function") (@Option.none.{0} @Nat) (@PySem.Data.func (@PySem.FuncData.mk ("_law_stream_right" : Str) ("_law_stream_right" : Str) (parsOf (top 26)) (@PySem.FuncBody.stmts (bodyOf (top 26))) (scopeOf (top 26)) (3 : Nat) (@List.nil.{0} (@Prod.{0, 0} @PySem.Str @Nat)) @PySem.Value.none @PySem.Value.none @PySem.Value.none (@PySem.Value.str ("law_pf0256_01" : Str) (419 : Nat)) (@Option.none.{0} @Nat) (@PySem.Value.ref (190 : Nat)) @PySem.Value.none (0 : Nat))) (@List.toArray.{0} (@Option.{0} @PySem.Value) (@List.nil.{0} (@Option.{0} @PySem.Value))))
noncomputable def ob197 (P : Params) : Obj := (@PySem.Obj.mk (@PySem.Value.type "code") (@Option.none.{0} @Nat) (@PySem.Data.fields (@List.toArray.{0} @PySem.Value (@List.cons.{0} @PySem.Value (@PySem.Value.str ("_law_reset_right" : Str) (469 : Nat)) (@List.cons.{0} @PySem.Value (@PySem.Value.str ("_law_reset_right" : Str) (470 : Nat)) (@List.cons.{0} @PySem.Value (@PySem.Value.str ("/claim/cut.py" : Str) (471 : Nat)) (@List.cons.{0} @PySem.Value (@PySem.Value.int (192 : Int) (0 : Nat)) (@List.cons.{0} @PySem.Value (@PySem.Value.int (3 : Int) (0 : Nat)) (@List.cons.{0} @PySem.Value (@PySem.Value.int (0 : Int) (0 : Nat)) (@List.cons.{0} @PySem.Value (@PySem.Value.int (0 : Int) (0 : Nat)) (@List.cons.{0} @PySem.Value (@PySem.Value.int (3 : Int) (0 : Nat)) (@List.cons.{0} @PySem.Value (@PySem.Value.ref (192 : Nat)) (@List.cons.{0} @PySem.Value (@PySem.Value.bool @Bool.true) (@List.cons.{0} @PySem.Value (@PySem.Value.int (181 : Int) (0 : Nat)) (@List.cons.{0} @PySem.Value (@PySem.Value.ref (193 : Nat)) (@List.cons.{0} @PySem.Value @PySem.Value.none (@List.cons.{0} @PySem.Value (@PySem.Value.ref (194 : Nat)) (@List.cons.{0} @PySem.Value (@PySem.Value.ref (195 : Nat)) (@List.cons.{0} @PySem.Value (@PySem.Value.ref (196 : Nat)) (@List.cons.{0} @PySem.Value (@PySem.Value.int (479 : Int) (0 : Nat)) (@List.cons.{0} @PySem.Value (@PySem.Value.int (192 : Int) (0 : Nat)) (@List.cons.{0} @PySem.Value (@PySem.Value.str ("/claim/cut.py" : Str) (480 : Nat)) (@List.nil.{0} @PySem.Value)))))))))))))))))))))) (@List.toArray.{0} (@Option.{0} @PySem.Value) (@List.nil.{0} (@Option.{0} @PySem.Value))))
noncomputable def ob198 (P : Params) : Obj := (@PySem.Obj.mk (@PySem.Value.type "function") (@Option.none.{0} @Nat) (@PySem.Data.func (@PySem.FuncData.mk ("_law_reset_right" : Str) ("_law_reset_right" : Str) (parsOf (top 27)) (@PySem.FuncBody.stmts (bodyOf (top 27))) (scopeOf (top 27)) (3 : Nat) (@List.nil.{0} (@Prod.{0, 0} @PySem.Str @Nat)) @PySem.Value.none @PySem.Value.none @PySem.Value.none (@PySem.Value.str ("law_pf0256_01" : Str) (419 : Nat)) (@Option.none.{0} @Nat) (@PySem.Value.ref (197 : Nat)) @PySem.Value.none (0 : Nat))) (@List.toArray.{0} (@Option.{0} @PySem.Value) (@List.nil.{0} (@Option.{0} @PySem.Value))))
noncomputable def ob204 (P : Params) : Obj := (@PySem.Obj.mk (@PySem.Value.type "code") (@Option.none.{0} @Nat) (@PySem.Data.fields (@List.toArray.{0} @PySem.Value (@List.cons.{0} @PySem.Value (@PySem.Value.str ("_law_reading_right" : Str) (482 : Nat)) (@List.cons.{0} @PySem.Value (@PySem.Value.str ("_law_reading_right" : Str) (483 : Nat)) (@List.cons.{0} @PySem.Value (@PySem.Value.str ("/claim/cut.py" : Str) (484 : Nat)) (@List.cons.{0} @PySem.Value (@PySem.Value.int (203 : Int) (0 : Nat)) (@List.cons.{0} @PySem.Value (@PySem.Value.int (3 : Int) (0 : Nat)) (@List.cons.{0} @PySem.Value (@PySem.Value.int (0 : Int) (0 : Nat)) (@List.cons.{0} @PySem.Value (@PySem.Value.int (0 : Int) (0 : Nat)) (@List.cons.{0} @PySem.Value (@PySem.Value.int (3 : Int) (0 : Nat)) (@List.cons.{0} @PySem.Value (@PySem.Value.ref (199 : Nat)) (@List.cons.{0} @PySem.Value (@PySem.Value.bool @Bool.true) (@List.cons.{0} @PySem.Value (@PySem.Value.int (181 : Int) (0 : Nat)) (@List.cons.{0} @PySem.Value (@PySem.Value.ref (200 : Nat)) (@List.cons.{0} @PySem.Value @PySem.Value.none (@List.cons.{0} @PySem.Value (@PySem.Value.ref (201 : Nat)) (@List.cons.{0} @PySem.Value (@PySem.Value.ref (202 : Nat)) (@List.cons.{0} @PySem.Value (@PySem.Value.ref (203 : Nat)) (@List.cons.{0} @PySem.Value (@PySem.Value.int (491 : Int) (0 : Nat)) (@List.cons.{0} @PySem.Value (@PySem.Value.int (203 : Int) (0 : Nat)) (@List.cons.{0} @PySem.Value (@PySem.Value.str ("/claim/cut.py" : Str) (492 : Nat)) (@List.nil.{0} @PySem.Value)))))))))))))))))))))) (@List.toArray.{0} (@Option.{0} @PySem.Value) (@List.nil.{0} (@Option.{0} @PySem.Value))))
noncomputable def ob205 (P : Params) : Obj := (@PySem.Obj.mk (@PySem.Value.type "function") (@Option.none.{0} @Nat) (@PySem.Data.func (@PySem.FuncData.mk ("_law_reading_right" : Str) ("_law_reading_right" : Str) (parsOf (top 28)) (@PySem.FuncBody.stmts (bodyOf (top 28))) (scopeOf (top 28)) (3 : Nat) (@List.nil.{0} (@Prod.{0, 0} @PySem.Str @Nat)) @PySem.Value.none @PySem.Value.none @PySem.Value.none (@PySem.Value.str ("law_pf0256_01" : Str) (419 : Nat)) (@Option.none.{0} @Nat) (@PySem.Value.ref (204 : Nat)) @PySem.Value.none (0 : Nat))) (@List.toArray.{0} (@Option.{0} @PySem.Value) (@List.nil.{0} (@Option.{0} @PySem.Value))))
noncomputable def ob211 (P : Params) : Obj := (@PySem.Obj.mk (@PySem.Value.type "code") (@Option.none.{0} @Nat) (@PySem.Data.fields (@List.toArray.{0} @PySem.Value (@List.cons.{0} @PySem.Value (@PySem.Value.str ("law" : Str) (494 : Nat)) (@List.cons.{0} @PySem.Value (@PySem.Value.str ("law" : Str) (495 : Nat)) (@List.cons.{0} @PySem.Value (@PySem.Value.str ("/claim/cut.py" : Str) (496 : Nat)) (@List.cons.{0} @PySem.Value (@PySem.Value.int (217 : Int) (0 : Nat)) (@List.cons.{0} @PySem.Value (@PySem.Value.int (1 : Int) (0 : Nat)) (@List.cons.{0} @PySem.Value (@PySem.Value.int (0 : Int) (0 : Nat)) (@List.cons.{0} @PySem.Value (@PySem.Value.int (0 : Int) (0 : Nat)) (@List.cons.{0} @PySem.Value (@PySem.Value.int (3 : Int) (0 : Nat)) (@List.cons.{0} @PySem.Value (@PySem.Value.ref (206 : Nat)) (@List.cons.{0} @PySem.Value (@PySem.Value.bool @Bool.true) (@List.cons.{0} @PySem.Value (@PySem.Value.int (181 : Int) (0 : Nat)) (@List.cons.{0} @PySem.Value (@PySem.Value.ref (207 : Nat)) (@List.cons.{0} @PySem.Value @PySem.Value.none (@List.cons.{0} @PySem.Value (@PySem.Value.ref (208 : Nat)) (@List.cons.{0} @PySem.Value (@PySem.Value.ref (209 : Nat)) (@List.cons.{0} @PySem.Value (@PySem.Value.ref (210 : Nat)) (@List.cons.{0} @PySem.Value (@PySem.Value.int (503 : Int) (0 : Nat)) (@List.cons.{0} @PySem.Value (@PySem.Value.int (217 : Int) (0 : Nat)) (@List.cons.{0} @PySem.Value (@PySem.Value.str ("/claim/cut.py" : Str) (504 : Nat)) (@List.nil.{0} @PySem.Value)))))))))))))))))))))) (@List.toArray.{0} (@Option.{0} @PySem.Value) (@List.nil.{0} (@Option.{0} @PySem.Value))))
noncomputable def ob212 (P : Params) : Obj := (@PySem.Obj.mk (@PySem.Value.type "function") (@Option.none.{0} @Nat) (@PySem.Data.func (@PySem.FuncData.mk ("law" : Str) ("law" : Str) (parsOf (top 29)) (@PySem.FuncBody.stmts (bodyOf (top 29))) (scopeOf (top 29)) (3 : Nat) (@List.nil.{0} (@Prod.{0, 0} @PySem.Str @Nat)) @PySem.Value.none @PySem.Value.none @PySem.Value.none (@PySem.Value.str ("law_pf0256_01" : Str) (419 : Nat)) (@Option.none.{0} @Nat) (@PySem.Value.ref (211 : Nat)) @PySem.Value.none (0 : Nat))) (@List.toArray.{0} (@Option.{0} @PySem.Value) (@List.nil.{0} (@Option.{0} @PySem.Value))))
noncomputable def Kf (P : Params) : Frag := (nat_lit 3, ob3 P) :: (nat_lit 27, ob27 P) :: (nat_lit 28, ob28 P) :: (nat_lit 30, ob30 P) :: (nat_lit 31, ob31 P) :: (nat_lit 32, ob32 P) :: (nat_lit 40, ob40 P) :: (nat_lit 41, ob41 P) :: (nat_lit 47, ob47 P) :: (nat_lit 48, ob48 P) :: (nat_lit 52, ob52 P) :: (nat_lit 53, ob53 P) :: (nat_lit 59, ob59 P) :: (nat_lit 60, ob60 P) :: (nat_lit 73, ob73 P) :: (nat_lit 74, ob74 P) :: (nat_lit 80, ob80 P) :: (nat_lit 81, ob81 P) :: (nat_lit 87, ob87 P) :: (nat_lit 88, ob88 P) :: (nat_lit 94, ob94 P) :: (nat_lit 95, ob95 P) :: (nat_lit 101, ob101 P) :: (nat_lit 102, ob102 P) :: (nat_lit 108, ob108 P) :: (nat_lit 109, ob109 P) :: (nat_lit 115, ob115 P) :: (nat_lit 116, ob116 P) :: (nat_lit 122, ob122 P) :: (nat_lit 123, ob123 P) :: (nat_lit 129, ob129 P) :: (nat_lit 130, ob130 P) :: (nat_lit 136, ob136 P) :: (nat_lit 137, ob137 P) :: (nat_lit 143, ob143 P) :: (nat_lit 144, ob144 P) :: (nat_lit 146, ob146 P) :: (nat_lit 147, ob147 P) :: (nat_lit 148, ob148 P) :: (nat_lit 149, ob149 P) :: (nat_lit 157, ob157 P) :: (nat_lit 158, ob158 P) :: (nat_lit 164, ob164 P) :: (nat_lit 165, ob165 P) :: (nat_lit 171, ob171 P) :: (nat_lit 172, ob172 P) :: (nat_lit 178, ob178 P) :: (nat_lit 179, ob179 P) :: (nat_lit 185, ob185 P) :: (nat_lit 186, ob186 P) :: (nat_lit 190, ob190 P) :: (nat_lit 191, ob191 P) :: (nat_lit 197, ob197 P) :: (nat_lit 198, ob198 P) :: (nat_lit 204, ob204 P) :: (nat_lit 205, ob205 P) :: (nat_lit 211, ob211 P) :: (nat_lit 212, ob212 P) :: []
noncomputable def Kas : List Addr := nat_lit 3 :: nat_lit 27 :: nat_lit 28 :: nat_lit 30 :: nat_lit 31 :: nat_lit 32 :: nat_lit 40 :: nat_lit 41 :: nat_lit 47 :: nat_lit 48 :: nat_lit 52 :: nat_lit 53 :: nat_lit 59 :: nat_lit 60 :: nat_lit 73 :: nat_lit 74 :: nat_lit 80 :: nat_lit 81 :: nat_lit 87 :: nat_lit 88 :: nat_lit 94 :: nat_lit 95 :: nat_lit 101 :: nat_lit 102 :: nat_lit 108 :: nat_lit 109 :: nat_lit 115 :: nat_lit 116 :: nat_lit 122 :: nat_lit 123 :: nat_lit 129 :: nat_lit 130 :: nat_lit 136 :: nat_lit 137 :: nat_lit 143 :: nat_lit 144 :: nat_lit 146 :: nat_lit 147 :: nat_lit 148 :: nat_lit 149 :: nat_lit 157 :: nat_lit 158 :: nat_lit 164 :: nat_lit 165 :: nat_lit 171 :: nat_lit 172 :: nat_lit 178 :: nat_lit 179 :: nat_lit 185 :: nat_lit 186 :: nat_lit 190 :: nat_lit 191 :: nat_lit 197 :: nat_lit 198 :: nat_lit 204 :: nat_lit 205 :: nat_lit 211 :: nat_lit 212 :: []
theorem Kas_eq (P : Params) : Kas = (Kf P).map (·.1) := rfl
end Mine
end

section
open PySem PySem.W PyProof.Rows PySem.Calls
set_option autoImplicit false
set_option maxRecDepth 100000
namespace Mine
noncomputable def fdAt (K : Frag) (a : Addr) : FuncData := match K.lookup a with
  | some ⟨_, _, .func fd, _⟩ => fd
  | _ => default
noncomputable def obAt (K : Frag) (a : Addr) : Obj := match K.lookup a with
  | some o => o
  | none => default
noncomputable abbrev fdX (K : Frag) (a : Addr) (F : Fn) : FuncData := fnX (fdAt K a).name F.qual (fdAt K a).params F.body (fdAt K a).scope [] (fdAt K a).defaults (fdAt K a).kwdefaults (fdAt K a).doc (fdAt K a).pyModule (fdAt K a).annotations (fdAt K a).code (fdAt K a).closureTuple
noncomputable def kindsB (F : Fn) : Bool := F.params.all fun x => match F.names.lookup x with
  | some .local => true
  | some .cell => (cellNames F.names).contains x
  | _ => false
noncomputable def cellkB (F : Fn) : Bool := (cellNames F.names).all fun x => match F.names.lookup x with
  | some .cell => true
  | _ => false
noncomputable def nodupS : List Str → Bool
  | [] => true
  | x :: xs => !(xs.any fun y => eqS x y) && nodupS xs
theorem nodupS_ok : ∀ {l : List Str}, nodupS l = true → l.Nodup
  | [], _ => List.nodup_nil
  | x :: xs, h => by
    unfold nodupS at h
    rw [Bool.and_eq_true, Bool.not_eq_true'] at h
    refine List.nodup_cons.mpr ⟨fun hm => ?_, nodupS_ok h.2⟩
    have := List.any_eq_false.mp h.1 x hm
    exact this (eqS_self x)
theorem fnK_of {K : Frag} {a : Nat} {F : Fn} (h : K.lookup a = some ⟨(obAt K a).cls, (obAt K a).dict, .func (fdX K a F), (obAt K a).slots⟩) (hc : codeIn K (fdAt K a).code F.qual = true) (hn : (fdAt K a).scope.names = F.names)
    (h1 : (fdAt K a).scope.isCoroutine = false) (h2 : (fdAt K a).scope.isGenerator = false) (h3 : (fdAt K a).scope.kind = .function) (hb : ∀ vs, vs.length = F.params.length → bindArgs (fdX K a F) ⟨vs, []⟩ = pure (F.params.zip vs))
    (d1 : nodupS F.params = true) (d2 : nodupS (cellNames F.names) = true) (d3 : kindsB F = true) (d4 : cellkB F = true) : FnK K a F := by
  refine ⟨⟨_, _, _, _, _, _, _, _, _, _, _, _, _, h, hc, hn, h1, h2, h3, fun s vs hv => BindsTo.of_eq (hb vs hv)⟩, nodupS_ok d1, nodupS_ok d2, fun x hx => ?_, fun x hx => ?_⟩
  · have := List.all_eq_true.mp d3 x hx
    split at this
    · exact .inl (by assumption)
    · exact .inr ⟨by assumption, List.contains_iff_mem.mp this⟩
    · cases this
  · have := List.all_eq_true.mp d4 x hx
    split at this
    · assumption
    · cases this
noncomputable def fnD (o : Option Fn) : Fn := match o with
  | some F => F
  | none => ⟨"", [], [], [], none⟩
theorem len1 {vs : List Value} (h : vs.length = 1) : ∃ a, vs = [a] := match vs, h with
  | [a], _ => ⟨a, rfl⟩
theorem len2 {vs : List Value} (h : vs.length = 2) : ∃ a b, vs = [a, b] := match vs, h with
  | [a, b], _ => ⟨a, b, rfl⟩
theorem len3 {vs : List Value} (h : vs.length = 3) : ∃ a b c, vs = [a, b, c] := match vs, h with
  | [a, b, c], _ => ⟨a, b, c, rfl⟩
theorem len4 {vs : List Value} (h : vs.length = 4) : ∃ a b c d, vs = [a, b, c, d] := match vs, h with
  | [a, b, c, d], _ => ⟨a, b, c, d, rfl⟩
theorem len5 {vs : List Value} (h : vs.length = 5) : ∃ a b c d e, vs = [a, b, c, d, e] := match vs, h with
  | [a, b, c, d, e], _ => ⟨a, b, c, d, e, rfl⟩
theorem len0 {vs : List Value} (h : vs.length = 0) : vs = [] := List.length_eq_zero_iff.mp h
theorem fk41 (P : Params) : FnK (Kf P) 41 (fnD (topFn 5)) := by
  refine fnK_of ?_ ?_ ?_ ?_ ?_ ?_ (fun vs hv => ?_) ?_ ?_ ?_ ?_
  · kernel_rfl
  · kernel_rfl
  · kernel_rfl
  · kernel_rfl
  · kernel_rfl
  · kernel_rfl
  · obtain ⟨a, b, c, rfl⟩ := len3 (hv.trans (by kernel_rfl))
    kernel_rfl
  · decide +kernel
  · decide +kernel
  · decide +kernel
  · decide +kernel
theorem fk48 (P : Params) : FnK (Kf P) 48 (fnD (topFn 6)) := by
  refine fnK_of ?_ ?_ ?_ ?_ ?_ ?_ (fun vs hv => ?_) ?_ ?_ ?_ ?_
  · kernel_rfl
  · kernel_rfl
  · kernel_rfl
  · kernel_rfl
  · kernel_rfl
  · kernel_rfl
  · obtain ⟨a, b, rfl⟩ := len2 (hv.trans (by kernel_rfl))
    kernel_rfl
  · decide +kernel
  · decide +kernel
  · decide +kernel
  · decide +kernel
theorem fk60 (P : Params) : FnK (Kf P) 60 (fnD (topFn 9)) := by
  refine fnK_of ?_ ?_ ?_ ?_ ?_ ?_ (fun vs hv => ?_) ?_ ?_ ?_ ?_
  · kernel_rfl
  · kernel_rfl
  · kernel_rfl
  · kernel_rfl
  · kernel_rfl
  · kernel_rfl
  · obtain ⟨a, b, c, rfl⟩ := len3 (hv.trans (by kernel_rfl))
    kernel_rfl
  · decide +kernel
  · decide +kernel
  · decide +kernel
  · decide +kernel
theorem fk74 (P : Params) : FnK (Kf P) 74 (fnD (methFn 19 0)) := by
  refine fnK_of ?_ ?_ ?_ ?_ ?_ ?_ (fun vs hv => ?_) ?_ ?_ ?_ ?_
  · kernel_rfl
  · kernel_rfl
  · kernel_rfl
  · kernel_rfl
  · kernel_rfl
  · kernel_rfl
  · obtain ⟨a, b, rfl⟩ := len2 (hv.trans (by kernel_rfl))
    kernel_rfl
  · decide +kernel
  · decide +kernel
  · decide +kernel
  · decide +kernel
theorem fk81 (P : Params) : FnK (Kf P) 81 (fnD (methFn 19 1)) := by
  refine fnK_of ?_ ?_ ?_ ?_ ?_ ?_ (fun vs hv => ?_) ?_ ?_ ?_ ?_
  · kernel_rfl
  · kernel_rfl
  · kernel_rfl
  · kernel_rfl
  · kernel_rfl
  · kernel_rfl
  · obtain ⟨a, b, c, d, rfl⟩ := len4 (hv.trans (by kernel_rfl))
    kernel_rfl
  · decide +kernel
  · decide +kernel
  · decide +kernel
  · decide +kernel
theorem fk88 (P : Params) : FnK (Kf P) 88 (fnD (methFn 19 2)) := by
  refine fnK_of ?_ ?_ ?_ ?_ ?_ ?_ (fun vs hv => ?_) ?_ ?_ ?_ ?_
  · kernel_rfl
  · kernel_rfl
  · kernel_rfl
  · kernel_rfl
  · kernel_rfl
  · kernel_rfl
  · obtain ⟨a, b, rfl⟩ := len2 (hv.trans (by kernel_rfl))
    kernel_rfl
  · decide +kernel
  · decide +kernel
  · decide +kernel
  · decide +kernel
theorem fk95 (P : Params) : FnK (Kf P) 95 (fnD (methFn 19 3)) := by
  refine fnK_of ?_ ?_ ?_ ?_ ?_ ?_ (fun vs hv => ?_) ?_ ?_ ?_ ?_
  · kernel_rfl
  · kernel_rfl
  · kernel_rfl
  · kernel_rfl
  · kernel_rfl
  · kernel_rfl
  · obtain ⟨a, b, c, d, rfl⟩ := len4 (hv.trans (by kernel_rfl))
    kernel_rfl
  · decide +kernel
  · decide +kernel
  · decide +kernel
  · decide +kernel
theorem fk102 (P : Params) : FnK (Kf P) 102 (fnD (methFn 19 4)) := by
  refine fnK_of ?_ ?_ ?_ ?_ ?_ ?_ (fun vs hv => ?_) ?_ ?_ ?_ ?_
  · kernel_rfl
  · kernel_rfl
  · kernel_rfl
  · kernel_rfl
  · kernel_rfl
  · kernel_rfl
  · obtain ⟨a, rfl⟩ := len1 (hv.trans (by kernel_rfl))
    kernel_rfl
  · decide +kernel
  · decide +kernel
  · decide +kernel
  · decide +kernel
theorem fk109 (P : Params) : FnK (Kf P) 109 (fnD (methFn 19 5)) := by
  refine fnK_of ?_ ?_ ?_ ?_ ?_ ?_ (fun vs hv => ?_) ?_ ?_ ?_ ?_
  · kernel_rfl
  · kernel_rfl
  · kernel_rfl
  · kernel_rfl
  · kernel_rfl
  · kernel_rfl
  · obtain ⟨a, b, c, rfl⟩ := len3 (hv.trans (by kernel_rfl))
    kernel_rfl
  · decide +kernel
  · decide +kernel
  · decide +kernel
  · decide +kernel
theorem fk116 (P : Params) : FnK (Kf P) 116 (fnD (methFn 19 6)) := by
  refine fnK_of ?_ ?_ ?_ ?_ ?_ ?_ (fun vs hv => ?_) ?_ ?_ ?_ ?_
  · kernel_rfl
  · kernel_rfl
  · kernel_rfl
  · kernel_rfl
  · kernel_rfl
  · kernel_rfl
  · obtain ⟨a, b, rfl⟩ := len2 (hv.trans (by kernel_rfl))
    kernel_rfl
  · decide +kernel
  · decide +kernel
  · decide +kernel
  · decide +kernel
theorem fk123 (P : Params) : FnK (Kf P) 123 (fnD (methFn 19 7)) := by
  refine fnK_of ?_ ?_ ?_ ?_ ?_ ?_ (fun vs hv => ?_) ?_ ?_ ?_ ?_
  · kernel_rfl
  · kernel_rfl
  · kernel_rfl
  · kernel_rfl
  · kernel_rfl
  · kernel_rfl
  · obtain ⟨a, b, rfl⟩ := len2 (hv.trans (by kernel_rfl))
    kernel_rfl
  · decide +kernel
  · decide +kernel
  · decide +kernel
  · decide +kernel
theorem fk130 (P : Params) : FnK (Kf P) 130 (fnD (methFn 19 8)) := by
  refine fnK_of ?_ ?_ ?_ ?_ ?_ ?_ (fun vs hv => ?_) ?_ ?_ ?_ ?_
  · kernel_rfl
  · kernel_rfl
  · kernel_rfl
  · kernel_rfl
  · kernel_rfl
  · kernel_rfl
  · obtain ⟨a, b, rfl⟩ := len2 (hv.trans (by kernel_rfl))
    kernel_rfl
  · decide +kernel
  · decide +kernel
  · decide +kernel
  · decide +kernel
theorem fk137 (P : Params) : FnK (Kf P) 137 (fnD (methFn 19 9)) := by
  refine fnK_of ?_ ?_ ?_ ?_ ?_ ?_ (fun vs hv => ?_) ?_ ?_ ?_ ?_
  · kernel_rfl
  · kernel_rfl
  · kernel_rfl
  · kernel_rfl
  · kernel_rfl
  · kernel_rfl
  · obtain ⟨a, rfl⟩ := len1 (hv.trans (by kernel_rfl))
    kernel_rfl
  · decide +kernel
  · decide +kernel
  · decide +kernel
  · decide +kernel
theorem fk144 (P : Params) : FnK (Kf P) 144 (fnD (methFn 19 10)) := by
  refine fnK_of ?_ ?_ ?_ ?_ ?_ ?_ (fun vs hv => ?_) ?_ ?_ ?_ ?_
  · kernel_rfl
  · kernel_rfl
  · kernel_rfl
  · kernel_rfl
  · kernel_rfl
  · kernel_rfl
  · obtain ⟨a, rfl⟩ := len1 (hv.trans (by kernel_rfl))
    kernel_rfl
  · decide +kernel
  · decide +kernel
  · decide +kernel
  · decide +kernel
theorem fk158 (P : Params) : FnK (Kf P) 158 (fnD (topFn 21)) := by
  refine fnK_of ?_ ?_ ?_ ?_ ?_ ?_ (fun vs hv => ?_) ?_ ?_ ?_ ?_
  · kernel_rfl
  · kernel_rfl
  · kernel_rfl
  · kernel_rfl
  · kernel_rfl
  · kernel_rfl
  · obtain rfl := len0 (hv.trans (by kernel_rfl))
    kernel_rfl
  · decide +kernel
  · decide +kernel
  · decide +kernel
  · decide +kernel
theorem fk172 (P : Params) : FnK (Kf P) 172 (fnD (topFn 23)) := by
  refine fnK_of ?_ ?_ ?_ ?_ ?_ ?_ (fun vs hv => ?_) ?_ ?_ ?_ ?_
  · kernel_rfl
  · kernel_rfl
  · kernel_rfl
  · kernel_rfl
  · kernel_rfl
  · kernel_rfl
  · obtain ⟨a, b, rfl⟩ := len2 (hv.trans (by kernel_rfl))
    kernel_rfl
  · decide +kernel
  · decide +kernel
  · decide +kernel
  · decide +kernel
theorem fk186 (P : Params) : FnK (Kf P) 186 (fnD (topFn 25)) := by
  refine fnK_of ?_ ?_ ?_ ?_ ?_ ?_ (fun vs hv => ?_) ?_ ?_ ?_ ?_
  · kernel_rfl
  · kernel_rfl
  · kernel_rfl
  · kernel_rfl
  · kernel_rfl
  · kernel_rfl
  · obtain ⟨a, b, c, d, rfl⟩ := len4 (hv.trans (by kernel_rfl))
    kernel_rfl
  · decide +kernel
  · decide +kernel
  · decide +kernel
  · decide +kernel
theorem fk191 (P : Params) : FnK (Kf P) 191 (fnD (topFn 26 (some 0))) := by
  refine fnK_of ?_ ?_ ?_ ?_ ?_ ?_ (fun vs hv => ?_) ?_ ?_ ?_ ?_
  · kernel_rfl
  · kernel_rfl
  · kernel_rfl
  · kernel_rfl
  · kernel_rfl
  · kernel_rfl
  · obtain ⟨a, b, c, d, e, rfl⟩ := len5 (hv.trans (by kernel_rfl))
    kernel_rfl
  · decide +kernel
  · decide +kernel
  · decide +kernel
  · decide +kernel
theorem fk198 (P : Params) : FnK (Kf P) 198 (fnD (topFn 27 (some 0))) := by
  refine fnK_of ?_ ?_ ?_ ?_ ?_ ?_ (fun vs hv => ?_) ?_ ?_ ?_ ?_
  · kernel_rfl
  · kernel_rfl
  · kernel_rfl
  · kernel_rfl
  · kernel_rfl
  · kernel_rfl
  · obtain ⟨a, b, c, rfl⟩ := len3 (hv.trans (by kernel_rfl))
    kernel_rfl
  · decide +kernel
  · decide +kernel
  · decide +kernel
  · decide +kernel
theorem fk205 (P : Params) : FnK (Kf P) 205 (fnD (topFn 28)) := by
  refine fnK_of ?_ ?_ ?_ ?_ ?_ ?_ (fun vs hv => ?_) ?_ ?_ ?_ ?_
  · kernel_rfl
  · kernel_rfl
  · kernel_rfl
  · kernel_rfl
  · kernel_rfl
  · kernel_rfl
  · obtain ⟨a, b, c, rfl⟩ := len3 (hv.trans (by kernel_rfl))
    kernel_rfl
  · decide +kernel
  · decide +kernel
  · decide +kernel
  · decide +kernel
theorem fk165 (P : Params) : FnK (Kf P) 165 fn165 := by
  refine fnK_of ?_ ?_ ?_ ?_ ?_ ?_ (fun vs hv => ?_) ?_ ?_ ?_ ?_
  · kernel_rfl
  · kernel_rfl
  · kernel_rfl
  · kernel_rfl
  · kernel_rfl
  · kernel_rfl
  · obtain ⟨a, b, rfl⟩ := len2 (hv.trans (by kernel_rfl))
    kernel_rfl
  · decide +kernel
  · decide +kernel
  · decide +kernel
  · decide +kernel
theorem fk53 (P : Params) : FnK (Kf P) 53 fn53 := by
  refine fnK_of ?_ ?_ ?_ ?_ ?_ ?_ (fun vs hv => ?_) ?_ ?_ ?_ ?_
  · kernel_rfl
  · kernel_rfl
  · kernel_rfl
  · kernel_rfl
  · kernel_rfl
  · kernel_rfl
  · obtain ⟨a, rfl⟩ := len1 (hv.trans (by kernel_rfl))
    kernel_rfl
  · decide +kernel
  · decide +kernel
  · decide +kernel
  · decide +kernel
theorem fk179 (P : Params) : FnK (Kf P) 179 fn179 := by
  refine fnK_of ?_ ?_ ?_ ?_ ?_ ?_ (fun vs hv => ?_) ?_ ?_ ?_ ?_
  · kernel_rfl
  · kernel_rfl
  · kernel_rfl
  · kernel_rfl
  · kernel_rfl
  · kernel_rfl
  · obtain ⟨a, rfl⟩ := len1 (hv.trans (by kernel_rfl))
    kernel_rfl
  · decide +kernel
  · decide +kernel
  · decide +kernel
  · decide +kernel
theorem fk28 (P : Params) : FnK (Kf P) 28 fn28 := by
  refine fnK_of ?_ ?_ ?_ ?_ ?_ ?_ (fun vs hv => ?_) ?_ ?_ ?_ ?_
  · kernel_rfl
  · kernel_rfl
  · kernel_rfl
  · kernel_rfl
  · kernel_rfl
  · kernel_rfl
  · obtain ⟨a, b, c, d, rfl⟩ := len4 (hv.trans (by kernel_rfl))
    kernel_rfl
  · decide +kernel
  · decide +kernel
  · decide +kernel
  · decide +kernel
theorem lk_all {α : Type} {p : Str → α → Prop} : ∀ {l : List (Str × α)}, (∀ q ∈ l, p q.1 q.2) → ∀ x v, lk l x = some v → p x v
  | [], _, x, v, h => by rw [lk_nil] at h; cases h
  | q :: l, a, x, v, h => by
    rw [lk_cons] at h
    split at h
    · rename_i e
      cases h
      rw [eqS_true e]
      exact a q List.mem_cons_self
    · exact lk_all (fun r hr => a r (List.mem_cons_of_mem _ hr)) x v h
noncomputable def tokOf : Option (Option Value) → Tok
  | some (some (.int _ t)) => t
  | some (some (.str _ t)) => t
  | _ => default
noncomputable def GlobP (K : Frag) (x : Str) (v : V) : Prop := ∃ V, nsIn K mainGlobals x = some (some V) ∧ VR [] v V
theorem gl0 (P : Params) : GlobP (Kf P) "QuicError" (.fn 31) := ⟨.ref 31, by kernel_rfl, .fn _⟩
theorem gl1 (P : Params) : GlobP (Kf P) "FINAL_SIZE_ERROR" (.int 6) := ⟨.int 6 (tokOf (nsIn (Kf P) mainGlobals "FINAL_SIZE_ERROR")), by kernel_rfl, .int _ _⟩
theorem gl2 (P : Params) : GlobP (Kf P) "FLOW_CONTROL_ERROR" (.int 3) := ⟨.int 3 (tokOf (nsIn (Kf P) mainGlobals "FLOW_CONTROL_ERROR")), by kernel_rfl, .int _ _⟩
theorem gl3 (P : Params) : GlobP (Kf P) "add_piece" (.fn 41) := ⟨.ref 41, by kernel_rfl, .fn _⟩
theorem gl4 (P : Params) : GlobP (Kf P) "taken_from" (.fn 48) := ⟨.ref 48, by kernel_rfl, .fn _⟩
theorem gl5 (P : Params) : GlobP (Kf P) "covered" (.fn 53) := ⟨.ref 53, by kernel_rfl, .fn _⟩
theorem gl6 (P : Params) : GlobP (Kf P) "has_span" (.fn 60) := ⟨.ref 60, by kernel_rfl, .fn _⟩
theorem gl7 (P : Params) : GlobP (Kf P) "RECEIVING" (.str "recv") := ⟨.str "recv" (tokOf (nsIn (Kf P) mainGlobals "RECEIVING")), by kernel_rfl, .str _ _⟩
theorem gl8 (P : Params) : GlobP (Kf P) "SIZE_KNOWN" (.str "size_known") := ⟨.str "size_known" (tokOf (nsIn (Kf P) mainGlobals "SIZE_KNOWN")), by kernel_rfl, .str _ _⟩
theorem gl9 (P : Params) : GlobP (Kf P) "DATA_RECEIVED" (.str "data_recvd") := ⟨.str "data_recvd" (tokOf (nsIn (Kf P) mainGlobals "DATA_RECEIVED")), by kernel_rfl, .str _ _⟩
theorem gl10 (P : Params) : GlobP (Kf P) "DATA_READ" (.str "data_read") := ⟨.str "data_read" (tokOf (nsIn (Kf P) mainGlobals "DATA_READ")), by kernel_rfl, .str _ _⟩
theorem gl11 (P : Params) : GlobP (Kf P) "RESET_RECEIVED" (.str "reset_recvd") := ⟨.str "reset_recvd" (tokOf (nsIn (Kf P) mainGlobals "RESET_RECEIVED")), by kernel_rfl, .str _ _⟩
theorem gl12 (P : Params) : GlobP (Kf P) "RESET_READ" (.str "reset_read") := ⟨.str "reset_read" (tokOf (nsIn (Kf P) mainGlobals "RESET_READ")), by kernel_rfl, .str _ _⟩
theorem gl13 (P : Params) : GlobP (Kf P) "FRAME_RESET" (.int 4) := ⟨.int 4 (tokOf (nsIn (Kf P) mainGlobals "FRAME_RESET")), by kernel_rfl, .int _ _⟩
theorem gl14 (P : Params) : GlobP (Kf P) "FRAME_STREAM" (.int 8) := ⟨.int 8 (tokOf (nsIn (Kf P) mainGlobals "FRAME_STREAM")), by kernel_rfl, .int _ _⟩
theorem gl15 (P : Params) : GlobP (Kf P) "RecvPart" (.fn 147) := ⟨.ref 147, by kernel_rfl, .fn _⟩
theorem gl16 (P : Params) : GlobP (Kf P) "_law_states" (.fn 158) := ⟨.ref 158, by kernel_rfl, .fn _⟩
theorem gl17 (P : Params) : GlobP (Kf P) "_law_next" (.fn 165) := ⟨.ref 165, by kernel_rfl, .fn _⟩
theorem gl18 (P : Params) : GlobP (Kf P) "_law_led" (.fn 172) := ⟨.ref 172, by kernel_rfl, .fn _⟩
theorem gl19 (P : Params) : GlobP (Kf P) "_law_told" (.fn 179) := ⟨.ref 179, by kernel_rfl, .fn _⟩
theorem gl20 (P : Params) : GlobP (Kf P) "_law_refused" (.fn 186) := ⟨.ref 186, by kernel_rfl, .fn _⟩
theorem gl21 (P : Params) : GlobP (Kf P) "_law_stream_right" (.fn 191) := ⟨.ref 191, by kernel_rfl, .fn _⟩
theorem gl22 (P : Params) : GlobP (Kf P) "_law_reset_right" (.fn 198) := ⟨.ref 198, by kernel_rfl, .fn _⟩
theorem gl23 (P : Params) : GlobP (Kf P) "_law_reading_right" (.fn 205) := ⟨.ref 205, by kernel_rfl, .fn _⟩
theorem gl_all (P : Params) : ∀ q ∈ globs, GlobP (Kf P) q.1 q.2 := by
  unfold globs
  simp only [List.forall_mem_cons]
  exact ⟨gl0 P, gl1 P, gl2 P, gl3 P, gl4 P, gl5 P, gl6 P, gl7 P, gl8 P, gl9 P, gl10 P, gl11 P, gl12 P, gl13 P, gl14 P, gl15 P, gl16 P, gl17 P, gl18 P, gl19 P, gl20 P, gl21 P, gl22 P, gl23 P, fun _ h => nomatch h⟩
noncomputable def BuiltP (K : Frag) (x : Str) (v : V) : Prop := nsIn K mainGlobals x = some none ∧ (∃ V, bootBuiltins x = some V ∧ VR [] v V) ∧ x ≠ "__name__"
theorem bu0 (P : Params) : BuiltP (Kf P) "len" (.bi .len) := ⟨by kernel_rfl, ⟨biV .len, by kernel_rfl, .bi _⟩, by decide +kernel⟩
theorem bu1 (P : Params) : BuiltP (Kf P) "sorted" (.bi .sorted) := ⟨by kernel_rfl, ⟨biV .sorted, by kernel_rfl, .bi _⟩, by decide +kernel⟩
theorem bu2 (P : Params) : BuiltP (Kf P) "max" (.bi .max) := ⟨by kernel_rfl, ⟨biV .max, by kernel_rfl, .bi _⟩, by decide +kernel⟩
theorem bu3 (P : Params) : BuiltP (Kf P) "min" (.bi .min) := ⟨by kernel_rfl, ⟨biV .min, by kernel_rfl, .bi _⟩, by decide +kernel⟩
theorem bu4 (P : Params) : BuiltP (Kf P) "list" (.bi .list) := ⟨by kernel_rfl, ⟨biV .list, by kernel_rfl, .bi _⟩, by decide +kernel⟩
theorem bu5 (P : Params) : BuiltP (Kf P) "bytes" (.bi .bytes) := ⟨by kernel_rfl, ⟨biV .bytes, by kernel_rfl, .bi _⟩, by decide +kernel⟩
theorem bu6 (P : Params) : BuiltP (Kf P) "range" (.bi .range) := ⟨by kernel_rfl, ⟨biV .range, by kernel_rfl, .bi _⟩, by decide +kernel⟩
theorem bu_all (P : Params) : ∀ q ∈ builts, BuiltP (Kf P) q.1 q.2 := by
  unfold builts
  simp only [List.forall_mem_cons]
  exact ⟨bu0 P, bu1 P, bu2 P, bu3 P, bu4 P, bu5 P, bu6 P, fun _ h => nomatch h⟩
noncomputable def FieldP (K : Frag) (x : Str) (_ : Unit) : Prop := findIn K (.ref 147) x = some none ∧ takerIn K 147 x = some none
theorem fi0 (P : Params) : FieldP (Kf P) "limit" () := ⟨by kernel_rfl, by kernel_rfl⟩
theorem fi1 (P : Params) : FieldP (Kf P) "state" () := ⟨by kernel_rfl, by kernel_rfl⟩
theorem fi2 (P : Params) : FieldP (Kf P) "pieces" () := ⟨by kernel_rfl, by kernel_rfl⟩
theorem fi3 (P : Params) : FieldP (Kf P) "read_to" () := ⟨by kernel_rfl, by kernel_rfl⟩
theorem fi4 (P : Params) : FieldP (Kf P) "highest" () := ⟨by kernel_rfl, by kernel_rfl⟩
theorem fi5 (P : Params) : FieldP (Kf P) "final_size" () := ⟨by kernel_rfl, by kernel_rfl⟩
theorem fi6 (P : Params) : FieldP (Kf P) "reset_code" () := ⟨by kernel_rfl, by kernel_rfl⟩
theorem fi7 (P : Params) : FieldP (Kf P) "stop_code" () := ⟨by kernel_rfl, by kernel_rfl⟩
theorem fi_all (P : Params) : ∀ q ∈ fieldNames, FieldP (Kf P) q.1 q.2 := by
  unfold fieldNames
  simp only [List.forall_mem_cons]
  exact ⟨fi0 P, fi1 P, fi2 P, fi3 P, fi4 P, fi5 P, fi6 P, fi7 P, fun _ h => nomatch h⟩
noncomputable def MethP (K : Frag) (x : Str) (a : Nat) : Prop := findIn K (.ref 147) x = some (some (.ref a)) ∧ isFn K (.ref a) = true ∧ keepIn K (.ref a) = true
theorem me0 (P : Params) : MethP (Kf P) "check_end" 81 := ⟨by kernel_rfl, by kernel_rfl, by kernel_rfl⟩
theorem me1 (P : Params) : MethP (Kf P) "grown" 88 := ⟨by kernel_rfl, by kernel_rfl, by kernel_rfl⟩
theorem me2 (P : Params) : MethP (Kf P) "on_stream" 95 := ⟨by kernel_rfl, by kernel_rfl, by kernel_rfl⟩
theorem me3 (P : Params) : MethP (Kf P) "has_all" 102 := ⟨by kernel_rfl, by kernel_rfl, by kernel_rfl⟩
theorem me4 (P : Params) : MethP (Kf P) "on_reset" 109 := ⟨by kernel_rfl, by kernel_rfl, by kernel_rfl⟩
theorem me5 (P : Params) : MethP (Kf P) "read" 116 := ⟨by kernel_rfl, by kernel_rfl, by kernel_rfl⟩
theorem me6 (P : Params) : MethP (Kf P) "stop" 123 := ⟨by kernel_rfl, by kernel_rfl, by kernel_rfl⟩
theorem me7 (P : Params) : MethP (Kf P) "raise_limit" 130 := ⟨by kernel_rfl, by kernel_rfl, by kernel_rfl⟩
theorem me8 (P : Params) : MethP (Kf P) "used_to" 137 := ⟨by kernel_rfl, by kernel_rfl, by kernel_rfl⟩
theorem me9 (P : Params) : MethP (Kf P) "is_over" 144 := ⟨by kernel_rfl, by kernel_rfl, by kernel_rfl⟩
theorem me_all (P : Params) : ∀ q ∈ methods, MethP (Kf P) q.1 q.2 := by
  unfold methods
  simp only [List.forall_mem_cons]
  exact ⟨me0 P, me1 P, me2 P, me3 P, me4 P, me5 P, me6 P, me7 P, me8 P, me9 P, fun _ h => nomatch h⟩
theorem fnD_some {o : Option Fn} {F : Fn} (h : o = some F) : fnD o = F := by rw [h]; rfl
theorem keeps_all (P : Params) : ∀ a F, fnAt a = some F → keepIn (Kf P) (.ref a) = true ∧ FnK (Kf P) a F := by
  intro a F h
  unfold fnAt at h
  split at h
  · exact ⟨by kernel_rfl, fnD_some h ▸ fk41 P⟩
  · exact ⟨by kernel_rfl, fnD_some h ▸ fk48 P⟩
  · exact ⟨by kernel_rfl, fnD_some h ▸ fk60 P⟩
  · exact ⟨by kernel_rfl, fnD_some h ▸ fk74 P⟩
  · exact ⟨by kernel_rfl, fnD_some h ▸ fk81 P⟩
  · exact ⟨by kernel_rfl, fnD_some h ▸ fk88 P⟩
  · exact ⟨by kernel_rfl, fnD_some h ▸ fk95 P⟩
  · exact ⟨by kernel_rfl, fnD_some h ▸ fk102 P⟩
  · exact ⟨by kernel_rfl, fnD_some h ▸ fk109 P⟩
  · exact ⟨by kernel_rfl, fnD_some h ▸ fk116 P⟩
  · exact ⟨by kernel_rfl, fnD_some h ▸ fk123 P⟩
  · exact ⟨by kernel_rfl, fnD_some h ▸ fk130 P⟩
  · exact ⟨by kernel_rfl, fnD_some h ▸ fk137 P⟩
  · exact ⟨by kernel_rfl, fnD_some h ▸ fk144 P⟩
  · exact ⟨by kernel_rfl, fnD_some h ▸ fk158 P⟩
  · exact ⟨by kernel_rfl, fnD_some h ▸ fk172 P⟩
  · exact ⟨by kernel_rfl, fnD_some h ▸ fk186 P⟩
  · exact ⟨by kernel_rfl, fnD_some h ▸ fk191 P⟩
  · exact ⟨by kernel_rfl, fnD_some h ▸ fk198 P⟩
  · exact ⟨by kernel_rfl, fnD_some h ▸ fk205 P⟩
  · cases h
theorem kF (P : Params) : KF (Kf P) where
  gl := lk_all (gl_all P)
  bu := fun x v _ h => lk_all (bu_all P) x v h
  makes := by kernel_rfl
  init := by kernel_rfl
  initF := by kernel_rfl
  plain := fun x => by kernel_rfl
  dict := by kernel_rfl
  over := by kernel_rfl
  seta := by kernel_rfl
  fields := lk_all (fi_all P)
  meths := lk_all (me_all P)
  keeps := keeps_all P
  keepC := by kernel_rfl
  keep53 := by kernel_rfl
  keep165 := by kernel_rfl
  keep179 := by kernel_rfl
noncomputable def cdAt (K : Frag) (a : Addr) : ClassData := match K.lookup a with
  | some ⟨_, _, .cls cd, _⟩ => cd
  | _ => default
noncomputable def slAt (K : Frag) (a i : Nat) : Option Value := match (obAt K a).slots[i]? with
  | some v => v
  | none => none
noncomputable def esAt (K : Frag) (a : Addr) : Array DictEntry := match K.lookup a with
  | some ⟨_, _, .dict es _, _⟩ => es
  | _ => default
noncomputable def epAt (K : Frag) (a : Addr) : Nat := match K.lookup a with
  | some ⟨_, _, .dict _ ep, _⟩ => ep
  | _ => default
noncomputable def strKeysB (l : List DictEntry) : Bool := l.all fun e => match e.key with
  | .str _ _ => true
  | _ => false
theorem strKeys_of {es : Array DictEntry} (h : strKeysB es.toList = true) : StrKeys es := fun e he => by
  have := List.all_eq_true.mp h e (Array.mem_toList_iff.mpr he)
  split at this
  · exact ⟨_, _, by assumption⟩
  · cases this
theorem kX (P : Params) : KX (Kf P) where
  cls := ⟨(cdAt (Kf P) 31).name, (cdAt (Kf P) 31).qualname, (cdAt (Kf P) 31).bases, (cdAt (Kf P) 31).slotNames, (cdAt (Kf P) 31).subclasses, (cdAt (Kf P) 31).abstract, (cdAt (Kf P) 31).collection, (obAt (Kf P) 31).dict,
    slAt (Kf P) 31 0, slAt (Kf P) 31 1, slAt (Kf P) 31 2, slAt (Kf P) 31 3, slAt (Kf P) 31 5, by kernel_rfl⟩
  ns := ⟨(obAt (Kf P) 30).cls, (obAt (Kf P) 30).dict, esAt (Kf P) 30, epAt (Kf P) 30, (obAt (Kf P) 30).slots, by kernel_rfl, strKeys_of (by kernel_rfl), by kernel_rfl⟩
  fn := fk28 P
  isfn := ⟨obAt (Kf P) 28, by kernel_rfl, by kernel_rfl⟩
  keep31 := by kernel_rfl
  seta := by kernel_rfl
  code := by kernel_rfl
  frame := by kernel_rfl
  text := by kernel_rfl
  dict := by kernel_rfl
  mro := ⟨cdAt (Kf P) 31, by kernel_rfl, by kernel_rfl⟩
  init := by kernel_rfl
  exc := by kernel_rfl
  str := by kernel_rfl
theorem kT (P : Params) : KT (Kf P) where
  fn := fk179 P
  code := by kernel_rfl
  frame := by kernel_rfl
  ga := by kernel_rfl
  gt := by kernel_rfl
  base := by kernel_rfl
theorem kAll (P : Params) : KAll (Kf P) := ⟨kX P, kT P, fk165 P, fk53 P⟩
end Mine
end

section
open PySem PySem.W PySem.W.X PyProof.Rows PySem.Calls
set_option autoImplicit false
set_option maxRecDepth 100000
namespace Mine
theorem locW {ρ : List Addr} {sl : Addr} {k : Nat} {m : Str → Option Value} (h : LocR ρ (put "pen" (.loc k) (loc0 sl)) m) : LocR ρ [("pen", .loc k)] m := fun x v e => by
  rw [lk_cons] at e
  split at e
  · rename_i ex
    have : x = "pen" := eqS_true ex
    subst this
    refine h _ v ?_
    rw [lk_put, if_pos rfl]
    exact e
  · rw [lk_nil] at e; cases e
theorem RepX.locD {ns : Par} {S₀ : Shared} {B : Heap} {cx : Cx} {st : St} {ρ : List Addr} {s : Shared} {objs : List Obj} {fo hid : Hid} {m : Str → Option Value} {l : Loc} (X : RepX ns S₀ B cx st ρ s objs fo hid m) (h : LocR ρ l m) : RepX ns S₀ B cx ⟨st.led, l⟩ ρ s objs fo hid m :=
  ⟨X.F, X.N, X.nd, X.len, X.led, X.fas, X.stk, h, X.sh, X.old⟩
/-- the law's body, from the state that its call makes -/
theorem law_join {prog : Program} {w : World} {p : Program} {loose : List Str} {mean : ExcName → Option Value} {mg mb : Str → Option Value} {B h₁ : Heap} {L sl : Addr} {m : Str → Option Value} {env : Env} {oc : Obj} {vs : List Value} {nums : List Int} {body : List Stmt}
    {g : Array GenState} {d : Drawn} {tk : Nat} {os : OsState} {A : Around} {Q : Flow → Shared → Prop} {E : Value → Shared → Prop} {v0 : Option Value}
    (X : (Kf w.params).In B) (T : Top p loose mean mg mb B) (F : Fr B L h₁ m) (N : News B L h₁ [(L + 1, oc), (193, tabObj #[]), (188, tabObj #[]), (207, tabObj #[])]) (hoc : oc.data = .cell v0) (hv0 : v0 = none) (hl : B.IsList sl vs.toArray) (hi : IntsAre vs nums) (hlen : nums.length ≤ 63)
    (c1 : CodeHd B 197 193) (c2 : CodeHd B 190 188) (c3 : CodeHd B 211 207) (l0 : 193 < L ∧ 188 < L ∧ 207 < L) (hm : m "script" = some (.ref sl))
    (e1 : env.scope.kind = .function) (e2 : env.scope.names = lawFn.names) (e3 : env.locals = L) (e4 : env.globals = mainGlobals) (e5 : env.builtins = builtinsNs) (e6 : env.cells = [(("part" : Str), L + 1)]) (e7 : env.frame = some L) (e8 : env.qual = lawFn.qual ++ (".<locals>." : Str)) (e9 : env.code = .ref 211)
    (a1 : A.frames = some [env]) (a2 : A.depth ≤ 600) (a3 : A.units ≤ 1000) (a4 : A.handled = none) (hb : body = lawFn.body)
    (q : ∀ s' m', Fr B L s'.heap m' → s'.gens = g → s'.os = os → GrownAll [(197, 193), (190, 188), (211, 207)] s'.heap → Q (.ret (.bool true)) s') :
    wpAny (model prog w) A (execs body env) Q E ⟨h₁, g, d, tk, os⟩ := by
  subst hb hv0
  let Y : Sys := ⟨⟨[], fun _ _ => False⟩, ⟨h₁, g, d, tk, os⟩, prog, w, Kf w.params, B, p, loose, mean, mg, mb, ⟨X, T, kF w.params, T.nolimit⟩, [207, 188, 193]⟩
  have G : Y.Gd ⟨A, env, L, [], [], []⟩ frL 90 [207, 188, 193, L + 1] := by
    refine ⟨e1, e2, e3, e4, e5, ?_, by show A.depth + 2 * 90 ≤ 980; omega, by show A.units + 20 * 90 ≤ 9500; omega, a4, fun _ => ⟨a1, e7, e8, rfl, fun e he => (by cases he), fun t ht => ?_⟩, ⟨[L + 1], rfl⟩⟩
    · show A2 _ env.cells _
      rw [e6]
      exact .cons ⟨rfl, rfl⟩ .nil
    · cases ht
      exact ⟨211, 207, e9, c3, rfl⟩
  have gl : ∀ ns hid, A2 (OR ns hid [207, 188, 193, L + 1]) [tabL, tabS, tabR, .cell none] [tabObj #[], tabObj #[], tabObj #[], oc] := fun ns hid =>
    .cons .tab0 (.cons .tab0 (.cons .tab0 (.cons (.cell0 hoc) .nil)))
  have X₀ : RepX Y.ns Y.S₀ Y.B ⟨A, env, L, [], [], []⟩ ⟨[tabL, tabS, tabR, .cell none], loc0 sl⟩ [207, 188, 193, L + 1] ⟨h₁, g, d, tk, os⟩ [tabObj #[], tabObj #[], tabObj #[], oc] [] [] m := by
    refine ⟨F, fun p hp => N p ?_, ?_, rfl, gl _ _, rfl, .nil, fun x v e => ?_, ⟨rfl, rfl, rfl⟩, fun p hp => hp⟩
    · replace hp : p ∈ [((207 : Addr), tabObj #[]), (188, tabObj #[]), (193, tabObj #[]), (L + 1, oc)] := hp
      simp only [List.mem_cons, List.not_mem_nil, or_false] at hp ⊢
      rcases hp with h | h | h | h
      · exact .inr (.inr (.inr h))
      · exact .inr (.inr (.inl h))
      · exact .inr (.inl h)
      · exact .inl h
    · show ([207, 188, 193, L + 1] : List Nat).Nodup
      obtain ⟨l1, l2, l3⟩ := l0
      simp only [List.nodup_cons, List.mem_cons, List.not_mem_nil, or_false, not_or, not_false_eq_true, List.nodup_nil, and_true]
      exact ⟨⟨by decide, by decide, Nat.ne_of_lt (Nat.lt_succ_of_lt l3)⟩, ⟨by decide, Nat.ne_of_lt (Nat.lt_succ_of_lt l2)⟩, Nat.ne_of_lt (Nat.lt_succ_of_lt l1)⟩
    · unfold loc0 at e
      rw [lk_cons] at e
      split at e
      · rename_i ex
        cases e
        exact ⟨.ref sl, by rw [eqS_true ex]; exact hm, .fn sl⟩
      · rw [lk_nil] at e; cases e
  show wpAny _ _ (execs (.Assign [.Name "pen" _] (.List [.Call (.Name "list" _) [.Subscript (.Name "script" _) (.Slice none (some (.Constant (.int 30) _ _)) none _) _] [] _, .Constant (.int 0) _ _,
      .BinOp (.Call (.Name "sum" _) [.Subscript (.Name "script" _) (.Slice none (some (.Constant (.int 30) _ _)) none _) _] [] _) .Mod (.Constant (.int 997) _ _) _] _) _ :: lawFn.body.drop 1) env) _ _ _
  refine wpAny_execs_cons ?_
  refine Sys.law_first (Y := Y) (cx := ⟨A, env, L, [], [], []⟩) (by kernel_rfl) G X₀ hl hi hlen gl fun pl o pvs np s' a ho hp hne R => ?_
  obtain ⟨objs, fo, hid, m', X'⟩ := R
  have P : ({ Y with ns := ⟨[(pl, o)], Sys.PenIs pl ((nums.take 30).sum.fmod 997)⟩ } : Sys).PenOk (nums.take 30) ((nums.take 30).sum.fmod 997) :=
    ⟨⟨pl, fun c o => Iff.rfl, np, pvs, by rw [ho]; exact List.mem_cons_self, hp⟩, by rw [List.length_take]; omega⟩
  have hS : ({ Y with ns := ⟨[(pl, o)], Sys.PenIs pl ((nums.take 30).sum.fmod 997)⟩ } : Sys).TabAt 191 1 := by
    refine ⟨190, 188, fun oc od sl fd e => ?_, c2, rfl⟩
    have h1 : (Kf w.params).lookup 191 = some ⟨(obAt (Kf w.params) 191).cls, (obAt (Kf w.params) 191).dict, .func (fdAt (Kf w.params) 191), (obAt (Kf w.params) 191).slots⟩ := by kernel_rfl
    have e' : (Kf w.params).lookup 191 = some ⟨oc, od, .func fd, sl⟩ := e
    rw [h1] at e'
    have hf : fd = fdAt (Kf w.params) 191 := by injection e' with e'; injection e' with _ _ e3; injection e3 with e3; exact e3.symm
    rw [hf]
    kernel_rfl
  have hR : ({ Y with ns := ⟨[(pl, o)], Sys.PenIs pl ((nums.take 30).sum.fmod 997)⟩ } : Sys).TabAt 198 2 := by
    refine ⟨197, 193, fun oc od sl fd e => ?_, c1, rfl⟩
    have h1 : (Kf w.params).lookup 198 = some ⟨(obAt (Kf w.params) 198).cls, (obAt (Kf w.params) 198).dict, .func (fdAt (Kf w.params) 198), (obAt (Kf w.params) 198).slots⟩ := by kernel_rfl
    have e' : (Kf w.params).lookup 198 = some ⟨oc, od, .func fd, sl⟩ := e
    rw [h1] at e'
    have hf : fd = fdAt (Kf w.params) 198 := by injection e' with e'; injection e' with _ _ e3; injection e3 with e3; exact e3.symm
    rw [hf]
    kernel_rfl
  refine Sys.law_rest (Y := { Y with ns := ⟨[(pl, o)], Sys.PenIs pl ((nums.take 30).sum.fmod 997)⟩ }) (cx := ⟨A, env, L, [], [], []⟩) (ρ := [207, 188, 193, L + 1, a]) (kAll w.params) P hS hR (G.ext (Ext.snoc _ a)) ⟨_, _, _, _, X'.locD (locW X'.loc)⟩ fun st ρ' s₂ t0 t1 t2 ext R₂ => ?_
  obtain ⟨objs₂, fo₂, hid₂, m₂, X₂⟩ := R₂
  have tabAt : ∀ {k : Nat} {a : Addr} {l c : Nat} {q : Str}, st.led[k]? = some (.tab l c q) → ρ'[k]? = some a → GrownAt a s₂.heap := by
    intro k a l c q h1 h2
    obtain ⟨o, _, ok, ho⟩ := X₂.at h1 h2
    cases ok with
    | tab0 => exact ⟨_, ho⟩
    | tab1 _ _ _ => exact ⟨_, ho⟩
  exact q s₂ m₂ X₂.F X₂.sh.1 X₂.sh.2.2 ⟨tabAt t2 (ext.at rfl), tabAt t1 (ext.at rfl), tabAt t0 (ext.at rfl), trivial⟩
end Mine
end

section
open PySem PySem.W PySem.W.X PyProof.Rows PySem.Calls
set_option maxRecDepth 100000
set_option maxHeartbeats 0
namespace Mine
def vw : Program := PySem.W.view PySem.Challenge.rw_pf0256_01.row.prog [1, 2, 3, 5, 6, 7, 9, 11, 12, 13, 14, 15, 16, 17, 18, 19, 21, 22, 23, 24, 25, 26, 27, 28, 29]
theorem left : LeftO PySem.Challenge.rw_pf0256_01.row.prog vw [] (fun s => xlAt vw [] s && recOk (RowW.records PySem.Challenge.rw_pf0256_01.row.toRowW) s) (Hook.obs (kmHook Kf Kas Kas_eq [193, 188, 207])) (Hook.val (kmHook Kf Kas Kas_eq [193, 188, 207])) 2802 := by
  unfold LeftO openEnds fencedOpening topFrom
  unfold openGood xlAt recOk
  rw [PySem.W.Fast.te14364793385576792824, PySem.W.Fast.te14082659384304107361, PySem.W.Fast.te4187177175401517315, PySem.W.Fast.te10274390034422433532, PySem.W.Fast.te5923862056798008813, PySem.W.Fast.te964301259703733418, PySem.W.Fast.te8920871248978507458, PySem.W.Fast.te1435165496053646825,
    PySem.W.Fast.te14289696077712309145, PySem.W.Fast.te3247288618530077131, PySem.W.Fast.te821141287760084731, PySem.W.Fast.te2368527892694137696, PySem.W.Fast.sDec_eq]
  intro w
  kernel_rfl
theorem said : OpenLaw.wellSaid PySem.Challenge.rw_pf0256_01 = true := by kernel_rfl
theorem ok1 : (chainsOk vw && (opensWell PySem.Challenge.rw_pf0256_01.row.prog && (frees PySem.Challenge.rw_pf0256_01.row.toRowW && PySem.Challenge.rw_pf0256_01.row.within.isEmpty))) = true := by kernel_rfl
theorem bare1 : PySem.Challenge.rw_pf0256_01.row.prog.bare := ⟨rfl, rfl, rfl, rfl, rfl, by decide +kernel⟩
theorem hw1 : PySem.Challenge.rw_pf0256_01.row.toRowW.promised := by w_witness2
theorem hd (h : WalkO vw [] (XL vw []) (Hook.says (kmHook Kf Kas Kas_eq [193, 188, 207])) PySem.Challenge.rw_pf0256_01.row.toRowW ((defOf vw PySem.Challenge.rw_pf0256_01.row.name).get rfl).1 [] fun f vs => PySem.call f vs) : PySem.Challenge.rw_pf0256_01.Holds := by
  refine holds_law said fun sd => ?_
  exact holds_open (q := vw) (loose := []) (Xt := fun s => xlAt vw [] s && recOk (RowW.records PySem.Challenge.rw_pf0256_01.row.toRowW) s) (XP := XL vw []) (Yf := Hook.obs (kmHook Kf Kas Kas_eq [193, 188, 207])) (Ya := Hook.val (kmHook Kf Kas Kas_eq [193, 188, 207])) (YP := Hook.says (kmHook Kf Kas Kas_eq [193, 188, 207])) (N := 2802) left (Hook.of (kmHook Kf Kas Kas_eq [193, 188, 207])) (Hook.keeps (kmHook Kf Kas Kas_eq [193, 188, 207]))
    (fun s e => xl_of s (Bool.and_eq_true_iff.mp e).1) XL.keeps (by rfl) (by rfl) (by rfl) (fun s e => recFacts_of (Bool.and_eq_true_iff.mp e).2) (by rfl) sd ok1 bare1 hw1 h
end Mine
end

open PySem PySem.W PySem.W.X PyProof.Rows PySem.Calls
set_option maxRecDepth 100000 in
set_option maxHeartbeats 0 in
theorem PySem.Challenge.cw_pf0256_01_holds : PySem.Challenge.rw_pf0256_01.Holds := by
  refine Mine.hd ?_
  k_fill
  intro w s₀ s₁ mg mb G Y fa o pm cd doc dV kV ho hd hcd hD hmg hg args vals as hpre hlay hrd hwl hlo
  have KX := km_in_of Y
  km_tabs Y
  have X := (Ground.X G).1
  have V := (Ground.X G).2
  refine Ground.open G ?_
  intro T B D TE TW
  try (refine guard_noD D (by decide +kernel) ?_; clear D)
  km_lay T hmg ho hd cd
  clear hmg
  wrow_args hpre hlay hrd hwl hlo
  all_goals (
    first | refine callC_kw (enter_call ?_) | refine enter_call ?_
    w_top on
    kn_posts
    w_call any ho hd hcd hD T F
    clear hd
    kn_ghosts F T
    k_drop
    skip)
  refine Mine.law_join (by assumption) (by assumption) (by assumption) (by assumption) (by assumption) ?jv0 (by assumption) (by assumption) ?jlen (by assumption) (by assumption) (by assumption) ?jl0 ?jm ?jk ?jn ?jl ?jg ?jb ?jc ?jf ?jqn ?jcd ?jfr ?jdp ?jun ?jha ?jbody fun s' m' F9 hg hos hgr => ?jfin
  case jv0 => kernel_rfl
  case jlen => omega
  case jl0 => assumption
  case jm => kernel_rfl
  case jk => kernel_rfl
  case jn => kernel_rfl
  case jl => kernel_rfl
  case jg => kernel_rfl
  case jb => kernel_rfl
  case jc => kernel_rfl
  case jf => kernel_rfl
  case jqn => kernel_rfl
  case jcd => kernel_rfl
  case jfr => kernel_rfl
  case jdp => exact (by decide : callerA.depth + 1 ≤ 600)
  case jun => exact (by decide : callerA.units + 3 ≤ 1000)
  case jha => kernel_rfl
  case jbody => kernel_rfl
  case jfin => exact ⟨⟨.inl ⟨.bool true, .bool true, [], rfl, fun _ => rfl, .bool true, by kernel_rfl, fun _ => ⟨List.nodup_nil, fun _ h => nomatch h⟩⟩, F9.keep, hos, hg.trans (by assumption)⟩, hgr⟩
