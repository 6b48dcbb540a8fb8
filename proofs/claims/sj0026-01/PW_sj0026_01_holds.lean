import PyProof.Rows.All
import Wide.All
import OpenK.AllK
import Wide.FinOn
import Lean
import PySem.Challenge.RW_sj0026_01
set_option Elab.async false
set_option maxRecDepth 100000
set_option autoImplicit false
set_option linter.all false

/-! M1 -/
namespace Mine
open PySem

inductive At where
  | none
  | bool (b : Bool)
  | int (i : Int)
  | str (s : Str)
inductive D where
  | a (x : At)
  | t (xs : List At)
inductive V where
  | undef
  | d (x : D)
  | ty (n : String)
  | range (a b c : Int)
  | ref (i : Nat)
inductive O where
  | list (xs : List D)
  | set (ns : List Int)
inductive Fl where
  | next
  | ret (v : V)
abbrev Loc := List (Str × V)
abbrev Hp := List O

abbrev V.int (i : Int) : V := .d (.a (.int i))
abbrev V.bool (b : Bool) : V := .d (.a (.bool b))
abbrev V.str (s : Str) : V := .d (.a (.str s))
abbrev V.none : V := .d (.a .none)
abbrev V.tup (xs : List At) : V := .d (.t xs)

noncomputable def lget : Loc → Str → Option V
  | [], _ => .none
  | (y, v) :: r, x => if x = y then some v else lget r x
noncomputable def lset : Loc → Str → V → Loc
  | [], _, _ => []
  | (y, w) :: r, x, v => if x = y then (y, v) :: r else (y, w) :: lset r x v

noncomputable def V.below (n : Nat) : V → Prop
  | .ref i => i < n
  | _ => True

/-- forget: the later map knows no more -/
noncomputable def Weak (n : Nat) (m m' : Loc) : Prop := ∀ x v, lget m' x = some v → ∃ u, lget m x = some u ∧ (v = .undef ∨ (v = u ∧ v.below n))

noncomputable def atoms : List V → Option (List At)
  | [] => some []
  | .d (.a x) :: r => (atoms r).map (x :: ·)
  | _ => none
noncomputable def datas : List V → Option (List D)
  | [] => some []
  | .d x :: r => (datas r).map (x :: ·)
  | _ => none
noncomputable def dAtoms : List D → Option (List At)
  | [] => some []
  | .a x :: r => (dAtoms r).map (x :: ·)
  | _ => none
noncomputable def dInts : List D → Option (List Int)
  | [] => some []
  | .a (.int x) :: r => (dInts r).map (x :: ·)
  | _ => none
noncomputable def atInts : List At → Option (List Int)
  | [] => some []
  | .int x :: r => (atInts r).map (x :: ·)
  | _ => none

noncomputable def lIns (s : List Int) (x : Int) : List Int := if x ∈ s then s else s ++ [x]
noncomputable def lUni (s t : List Int) : List Int := t.foldl lIns s
noncomputable def lDed (t : List Int) : List Int := lUni [] t

noncomputable def rangeList (a b c : Int) : List Int :=
  if c = 1 then (List.range (b - a).toNat).map fun (k : Nat) => a + (k : Int)
  else if c = -1 then (List.range (a - b).toNat).map fun (k : Nat) => a - (k : Int)
  else []

noncomputable def smallI (x : Int) : Prop := x.natAbs < 2 ^ 256

noncomputable def tyOf (x : Str) : Option String := if x = ("bool" : Str) then some "bool" else none

/-- what a place of the heap holds -/
noncomputable def lsAt (h : Hp) (i : Nat) : Option (List D) := match h[i]? with
  | some (.list xs) => some xs
  | _ => none
noncomputable def stAt (h : Hp) (i : Nat) : Option (List Int) := match h[i]? with
  | some (.set xs) => some xs
  | _ => none

/-- an int, or a tuple of ints -/
noncomputable def DI : D → Prop
  | .a (.int _) => True
  | .t as => ∀ a ∈ as, ∃ i, a = At.int i
  | _ => False

/-! looks into the values -/
noncomputable def asI : V → Option Int
  | .d x => (match x with
    | .a y => (match y with
      | .int i => some i
      | _ => none)
    | _ => none)
  | _ => none
noncomputable def asBo : V → Option Bool
  | .d x => (match x with
    | .a y => (match y with
      | .bool i => some i
      | _ => none)
    | _ => none)
  | _ => none
noncomputable def asS : V → Option Str
  | .d x => (match x with
    | .a y => (match y with
      | .str i => some i
      | _ => none)
    | _ => none)
  | _ => none
noncomputable def asT : V → Option (List At)
  | .d x => (match x with
    | .t y => some y
    | _ => none)
  | _ => none
noncomputable def asD : V → Option D
  | .d x => some x
  | _ => none
noncomputable def asR : V → Option Nat
  | .ref i => some i
  | _ => none
noncomputable def asTy : V → Option String
  | .ty i => some i
  | _ => none
noncomputable def asRg : V → Option (Int × Int × Int)
  | .range a b c => some (a, b, c)
  | _ => none
noncomputable def onO {α : Type} (o : Option α) (P : α → Prop) : Prop := match o with
  | some x => P x
  | none => False
noncomputable def on1 (vs : List V) (P : V → Prop) : Prop := match vs with
  | [] => False
  | v :: r => (match r with
    | [] => P v
    | _ :: _ => False)
theorem onO_inv {α : Type} {o : Option α} {P : α → Prop} (h : onO o P) : ∃ x, o = some x ∧ P x := by
  cases o with
  | none => exact h.elim
  | some x => exact ⟨x, rfl, h⟩
theorem on1_inv {vs : List V} {P : V → Prop} (h : on1 vs P) : ∃ v, vs = [v] ∧ P v := by
  cases vs with
  | nil => exact h.elim
  | cons v r => cases r with
    | nil => exact ⟨v, rfl, h⟩
    | cons _ _ => exact h.elim
theorem asD_some {v : V} {x : D} (h : asD v = some x) : v = .d x := by
  cases v <;> first | exact nomatch (show none = some x from h) | (cases h; rfl)
theorem asR_some {v : V} {x : Nat} (h : asR v = some x) : v = .ref x := by
  cases v <;> first | exact nomatch (show none = some x from h) | (cases h; rfl)
theorem asTy_some {v : V} {x : String} (h : asTy v = some x) : v = .ty x := by
  cases v <;> first | exact nomatch (show none = some x from h) | (cases h; rfl)
theorem asRg_some {v : V} {x : Int × Int × Int} (h : asRg v = some x) : v = .range x.1 x.2.1 x.2.2 := by
  cases v <;> first | exact nomatch (show none = some x from h) | (cases h; rfl)
theorem asT_some {v : V} {x : List At} (h : asT v = some x) : v = .d (.t x) := by
  cases v <;> first | exact nomatch (show none = some x from h) | skip
  rename_i d
  cases d <;> first | exact nomatch (show none = some x from h) | (cases h; rfl)
theorem asI_some {v : V} {x : Int} (h : asI v = some x) : v = .int x := by
  cases v <;> first | exact nomatch (show none = some x from h) | skip
  rename_i d
  cases d <;> first | exact nomatch (show none = some x from h) | skip
  rename_i a
  cases a <;> first | exact nomatch (show none = some x from h) | (cases h; rfl)
theorem asBo_some {v : V} {x : Bool} (h : asBo v = some x) : v = .bool x := by
  cases v <;> first | exact nomatch (show none = some x from h) | skip
  rename_i d
  cases d <;> first | exact nomatch (show none = some x from h) | skip
  rename_i a
  cases a <;> first | exact nomatch (show none = some x from h) | (cases h; rfl)
theorem asS_some {v : V} {x : Str} (h : asS v = some x) : v = .str x := by
  cases v <;> first | exact nomatch (show none = some x from h) | skip
  rename_i d
  cases d <;> first | exact nomatch (show none = some x from h) | skip
  rename_i a
  cases a <;> first | exact nomatch (show none = some x from h) | (cases h; rfl)
theorem onI_inv {v : V} {P : Int → Prop} (h : onO (asI v) P) : ∃ i, v = .int i ∧ P i := by
  obtain ⟨x, e, q⟩ := onO_inv h; exact ⟨x, asI_some e, q⟩
theorem onR_inv {v : V} {P : Nat → Prop} (h : onO (asR v) P) : ∃ i, v = .ref i ∧ P i := by
  obtain ⟨x, e, q⟩ := onO_inv h; exact ⟨x, asR_some e, q⟩
theorem onT_inv {v : V} {P : List At → Prop} (h : onO (asT v) P) : ∃ i, v = .d (.t i) ∧ P i := by
  obtain ⟨x, e, q⟩ := onO_inv h; exact ⟨x, asT_some e, q⟩
theorem onD_inv {v : V} {P : D → Prop} (h : onO (asD v) P) : ∃ i, v = .d i ∧ P i := by
  obtain ⟨x, e, q⟩ := onO_inv h; exact ⟨x, asD_some e, q⟩
theorem onBo_inv {v : V} {P : Bool → Prop} (h : onO (asBo v) P) : ∃ i, v = .bool i ∧ P i := by
  obtain ⟨x, e, q⟩ := onO_inv h; exact ⟨x, asBo_some e, q⟩
theorem onS_inv {v : V} {P : Str → Prop} (h : onO (asS v) P) : ∃ i, v = .str i ∧ P i := by
  obtain ⟨x, e, q⟩ := onO_inv h; exact ⟨x, asS_some e, q⟩

noncomputable def unop (op : UnaryOp) (v : V) (Q : V → Prop) : Prop := match op with
  | .USub => onO (asI v) fun i => Q (.int (-i))
  | _ => False

noncomputable def binI (op : Operator) (x y : Int) (h : Hp) (Q : V → Hp → Prop) : Prop := match op with
  | .Add => Q (.int (x + y)) h
  | .Sub => Q (.int (x - y)) h
  | .Mult => smallI x ∧ smallI y ∧ Q (.int (x * y)) h
  | .Mod => y ≠ 0 ∧ Q (.int (x.fmod y)) h
  | .FloorDiv => y ≠ 0 ∧ y.natAbs < 1073741824 ∧ Q (.int (x.fdiv y)) h
  | .Pow => 0 ≤ y ∧ y ≤ 100 ∧ x.natAbs ≤ 100 ∧ Q (.int (x ^ y.toNat)) h
  | .LShift => 0 ≤ y ∧ y ≤ 1000 ∧ x.natAbs < 2 ^ 64 ∧ Q (.int (x * 2 ^ y.toNat)) h
  | .RShift => 0 ≤ y ∧ Q (.int (x.fdiv (2 ^ y.toNat))) h
  | .BitAnd => Q (.int (Builtin.bitAnd x y)) h
  | .BitOr => Q (.int (Builtin.bitOr x y)) h
  | .BitXor => Q (.int (Builtin.bitXor x y)) h
  | _ => False

noncomputable def addL (i j : Nat) (h : Hp) (Q : V → Hp → Prop) : Prop := match lsAt h i, lsAt h j with
  | some xs, some ys => xs.length + ys.length ≤ 100000 ∧ Q (.ref h.length) (h ++ [.list (xs ++ ys)])
  | _, _ => False
noncomputable def binop (op : Operator) (a b : V) (h : Hp) (Q : V → Hp → Prop) : Prop := match asI a with
  | some x => onO (asI b) fun y => binI op x y h Q
  | none => (match asT a with
    | some xs => onO (asT b) fun ys => (match op with
      | .Add => xs.length + ys.length ≤ 1000 ∧ Q (.tup (xs ++ ys)) h
      | _ => False)
    | none => onO (asR a) fun i => (match asR b with
      | some j => (match op with
        | .Add => addL i j h Q
        | _ => False)
      | none => onO (asI b) fun k => (match op with
        | .Mult => (match lsAt h i with
          | some [x] => 0 ≤ k ∧ k ≤ 1000 ∧ Q (.ref h.length) (h ++ [.list (List.replicate k.toNat x)])
          | _ => False)
        | _ => False)))

noncomputable def cmpI (op : CmpOp) (x y : Int) (Q : Bool → Prop) : Prop := match op with
  | .Eq => Q (x == y)
  | .NotEq => Q (x != y)
  | .Lt => Q (decide (x < y))
  | .LtE => Q (decide (x ≤ y))
  | .Gt => Q (decide (y < x))
  | .GtE => Q (decide (y ≤ x))
  | _ => False

noncomputable def neL (i j : Nat) (h : Hp) (Q : Bool → Prop) : Prop := match lsAt h i, lsAt h j with
  | some xs, some ys => xs = ys ∧ (∀ d ∈ xs, DI d) ∧ Q false
  | _, _ => False
noncomputable def cmpop (op : CmpOp) (a b : V) (h : Hp) (Q : Bool → Prop) : Prop := match asI a with
  | some x => (match asI b with
    | some y => cmpI op x y Q
    | none => onO (asR b) fun i => (match op with
      | .In => (match stAt h i with
        | some ns => ns.length ≤ 1000 ∧ Q (decide (x ∈ ns))
        | .none => False)
      | .NotIn => (match stAt h i with
        | some ns => ns.length ≤ 1000 ∧ Q (!decide (x ∈ ns))
        | .none => False)
      | _ => False))
  | none => (match asBo a with
    | some x => onO (asBo b) fun y => (match op with
      | .Eq => Q (x == y)
      | .NotEq => Q (x != y)
      | _ => False)
    | none => (match asS a with
      | some x => onO (asS b) fun y => (match op with
        | .Eq => Q (x == y)
        | _ => False)
      | none => onO (asR a) fun i => onO (asR b) fun j => (match op with
        | .NotEq => neL i j h Q
        | _ => False)))

noncomputable def getIt (o k : V) (h : Hp) (Q : V → Prop) : Prop := match asT o with
  | some xs => onO (asI k) fun k => 0 ≤ k ∧ k < 1000000 ∧ (match xs[k.toNat]? with | some x => Q (.d (.a x)) | .none => False)
  | none => onO (asR o) fun i => onO (asI k) fun k => (match lsAt h i with
    | some xs => 0 ≤ k ∧ k < 1000000 ∧ (match xs[k.toNat]? with | some x => Q (.d x) | .none => False)
    | .none => False)

noncomputable def setIt (o k v : V) (h : Hp) (Q : Hp → Prop) : Prop := onO (asR o) fun i => onO (asI k) fun k => onO (asD v) fun x => (match lsAt h i with
    | some xs => 0 ≤ k ∧ k < 1000000 ∧ k < (xs.length : Int) ∧ Q (h.set i (.list (xs.set k.toNat x)))
    | .none => False)

noncomputable def getSl (o : V) (lo hi : Option Int) (h : Hp) (Q : V → Hp → Prop) : Prop := match lo with
  | some k => (match hi with
    | some _ => False
    | none => (match asT o with
      | some xs => k = 1 ∧ xs.length ≤ 1000 ∧ Q (.tup (xs.drop 1)) h
      | none => onO (asR o) fun i => (match lsAt h i with
        | some xs => xs.length ≤ 100000 ∧ 0 ≤ k ∧ Q (.ref h.length) (h ++ [.list (xs.drop k.toNat)])
        | .none => False)))
  | none => onO hi fun k => onO (asR o) fun i => (match lsAt h i with
    | some xs => xs.length ≤ 100000 ∧ 0 ≤ k ∧ Q (.ref h.length) (h ++ [.list (xs.take k.toNat)])
    | .none => False)

abbrev Gam := Str → List V → Hp → V → Hp → Prop

noncomputable def builtins : List Str := ["abs", "len", "int", "isinstance", "range", "list", "tuple", "set"]

noncomputable def users : List Str := ["clause_state", "put_true", "propagation_fails", "is_clause", "check_refutation", "_law_pick", "_law_column", "_law_impossible", "_law_cases", "_law_fails", "_law_taken"]

noncomputable def callB (f : Str) (vs : List V) (h : Hp) (Q : V → Hp → Prop) : Prop :=
  if f = ("abs" : Str) then on1 vs fun v => onO (asI v) fun i => Q (.int (i.natAbs : Int)) h
  else if f = ("len" : Str) then on1 vs fun v => (match asT v with
    | some xs => xs.length ≤ 1000 ∧ Q (.int xs.length) h
    | none => onO (asR v) fun i => (match lsAt h i with
      | some xs => xs.length ≤ 100000 ∧ Q (.int xs.length) h
      | .none => (match stAt h i with
        | some ns => ns.length ≤ 1000 ∧ Q (.int ns.length) h
        | .none => False)))
  else if f = ("int" : Str) then on1 vs fun v => onO (asI v) fun i => Q (.int i) h
  else if f = ("isinstance" : Str) then (match vs with
    | [] => False
    | v :: r => on1 r fun w => onO (asBo v) fun _ => onO (asTy w) fun n => n = "bool" ∧ Q (.bool true) h)
  else if f = ("range" : Str) then (match vs with
    | [] => False
    | v :: r => onO (asI v) fun a => (match r with
      | [] => Q (.range 0 a 1) h
      | w :: r2 => onO (asI w) fun b => (match r2 with
        | [] => Q (.range a b 1) h
        | u :: r3 => on1 (u :: r3) fun u => onO (asI u) fun c => c = -1 ∧ Q (.range a b c) h)))
  else if f = ("list" : Str) then on1 vs fun v => (match asR v with
    | some i => (match lsAt h i with
      | some xs => xs.length ≤ 100000 ∧ Q (.ref h.length) (h ++ [.list xs])
      | .none => False)
    | none => onO (asRg v) fun z => z.1.natAbs ≤ 1000 ∧ z.2.1.natAbs ≤ 1000 ∧ z.2.2 = 1 ∧ Q (.ref h.length) (h ++ [.list ((rangeList z.1 z.2.1 z.2.2).map fun k => .a (.int k))]))
  else if f = ("tuple" : Str) then on1 vs fun v => onO (asR v) fun i => (match lsAt h i with
      | some xs => xs.length ≤ 1000 ∧ (match dAtoms xs with | some as => Q (.tup as) h | .none => False)
      | .none => False)
  else if f = ("set" : Str) then (match vs with
    | [] => Q (.ref h.length) (h ++ [.set []])
    | v :: r => on1 (v :: r) fun v => onO (asR v) fun i => (match lsAt h i with
      | some xs => xs.length ≤ 14 ∧ (match dInts xs with | some ns => Q (.ref h.length) (h ++ [.set (lDed ns)]) | .none => False)
      | .none => False))
  else False

noncomputable def callF (Γ : Gam) (f : Str) (vs : List V) (h : Hp) (Q : V → Hp → Prop) : Prop :=
  if f ∈ builtins then callB f vs h Q else ∃ r h', Γ f vs h r h' ∧ Q r h'

noncomputable def meth (name : Str) (o : V) (vs : List V) (h : Hp) (Q : V → Hp → Prop) : Prop :=
  if name = ("append" : Str) then onO (asR o) fun i => on1 vs fun v => onO (asD v) fun x => (match lsAt h i with
      | some xs => xs.length ≤ 100000 ∧ Q .none (h.set i (.list (xs ++ [x])))
      | .none => False)
  else if name = ("pop" : Str) then onO (asR o) fun i => on1 vs fun v => onO (asI v) fun k => (match lsAt h i with
      | some xs => xs.length ≤ 100000 ∧ 0 ≤ k ∧ k < 1000000 ∧ (match xs[k.toNat]? with
        | some x => Q (.d x) (h.set i (.list (xs.eraseIdx k.toNat)))
        | .none => False)
      | .none => False)
  else if name = ("add" : Str) then onO (asR o) fun i => on1 vs fun v => onO (asI v) fun k => (match stAt h i with
      | some ns => ns.length ≤ 13 ∧ Q .none (h.set i (.set (lIns ns k)))
      | .none => False)
  else False

noncomputable def methOk (name : Str) (o : V) (h : Hp) : Prop :=
  if name = ("append" : Str) ∨ name = ("pop" : Str) then onO (asR o) fun i => (lsAt h i).isSome = true
  else if name = ("add" : Str) then onO (asR o) fun i => (stAt h i).isSome = true
  else False

noncomputable def iorS (i j : Nat) (h : Hp) (Q : V → Hp → Prop) : Prop := match stAt h i, stAt h j with
    | some ns, some ms => i ≠ j ∧ ns.length + ms.length ≤ 14 ∧ Q (.ref i) (h.set i (.set (lUni ns ms)))
    | _, _ => False
noncomputable def inI (op : Operator) (x y : Int) (h : Hp) (Q : V → Hp → Prop) : Prop := match op with
  | .Add => Q (.int (x + y)) h
  | .BitAnd => Q (.int (Builtin.bitAnd x y)) h
  | .BitOr => Q (.int (Builtin.bitOr x y)) h
  | _ => False
noncomputable def inop (op : Operator) (a b : V) (h : Hp) (Q : V → Hp → Prop) : Prop := match asI a with
  | some x => onO (asI b) fun y => inI op x y h Q
  | none => onO (asR a) fun i => onO (asR b) fun j => (match op with
    | .BitOr => iorS i j h Q
    | _ => False)

noncomputable def constV : Const → Option V
  | .none => some .none
  | .bool b => some (.bool b)
  | .int i => some (.int i)
  | .str s => some (.str s)
  | _ => .none

noncomputable def evEs (f : Expr → Hp → (V → Hp → Prop) → Prop) : List Expr → Hp → (List V → Hp → Prop) → Prop
  | [], h, Q => Q [] h
  | e :: es, h, Q => f e h fun v h' => evEs f es h' fun vs h'' => Q (v :: vs) h''

noncomputable def evPart (f : Expr → Hp → (V → Hp → Prop) → Prop) : Option Expr → Hp → (Option Int → Hp → Prop) → Prop
  | .none, h, Q => Q .none h
  | some e, h, Q => f e h fun v h' => match v with
    | .d (.a (.int k)) => Q (some k) h'
    | _ => False

noncomputable def evBo (f : Expr → Hp → (V → Hp → Prop) → Prop) (op : BoolOp) : List Expr → Hp → (V → Hp → Prop) → Prop
  | [], _, _ => False
  | [e], h, Q => f e h Q
  | e :: es, h, Q => f e h fun v h' => match v with
    | .d (.a (.bool b)) => if (op == .And) = b then evBo f op es h' Q else Q (.bool b) h'
    | _ => False

noncomputable def evAll (f : Expr → Hp → (Bool → Hp → Prop) → Prop) (op : BoolOp) : List Expr → Hp → (Bool → Hp → Prop) → Prop
  | [], h, Q => Q (op == .And) h
  | e :: es, h, Q => f e h fun b h' => if (op == .And) = b then evAll f op es h' Q else Q b h'

mutual
noncomputable def evE (Γ : Gam) : Nat → Expr → Loc → Hp → (V → Hp → Prop) → Prop
  | 0, _, _, _, _ => False
  | n + 1, e, m, h, Q => match e with
    | .Constant c _ _ => (match constV c with | some v => Q v h | .none => False)
    | .Name x _ => (match lget m x with
      | some v => v ≠ .undef ∧ Q v h
      | .none => (match tyOf x with | some t => Q (.ty t) h | .none => False))
    | .Tuple es _ _ => evEs (fun e h Q => evE Γ n e m h Q) es h fun vs h' => (match atoms vs with | some as => as.length ≤ 1000 ∧ Q (.tup as) h' | .none => False)
    | .List es _ => evEs (fun e h Q => evE Γ n e m h Q) es h fun vs h' => (match datas vs with | some ds => ds.length ≤ 1000 ∧ Q (.ref h'.length) (h' ++ [.list ds]) | .none => False)
    | .UnaryOp op e _ => evE Γ n e m h fun v h' => unop op v fun r => Q r h'
    | .BinOp l op r _ => evE Γ n l m h fun a h1 => evE Γ n r m h1 fun b h2 => binop op a b h2 Q
    | .Compare l [op] [r] _ => evE Γ n l m h fun a h1 => evE Γ n r m h1 fun b h2 => cmpop op a b h2 fun c => Q (.bool c) h2
    | .BoolOp op es _ => evBo (fun e h Q => evE Γ n e m h Q) op es h Q
    | .IfExp t a b _ => evT Γ n t m h fun c h' => if c = true then evE Γ n a m h' Q else evE Γ n b m h' Q
    | .Subscript o (.Slice lo hi .none _) _ => evE Γ n o m h fun ov h1 => evPart (fun e h Q => evE Γ n e m h Q) lo h1 fun l h2 => evPart (fun e h Q => evE Γ n e m h Q) hi h2 fun u h3 => getSl ov l u h3 Q
    | .Subscript o i _ => evE Γ n o m h fun ov h1 => evE Γ n i m h1 fun iv h2 => getIt ov iv h2 fun r => Q r h2
    | .Call (.Attribute o name _) args [] _ => evE Γ n o m h fun ov h1 => methOk name ov h1 ∧ evEs (fun e h Q => evE Γ n e m h Q) args h1 fun vs h2 => meth name ov vs h2 Q
    | .Call (.Name f _) args [] _ => evEs (fun e h Q => evE Γ n e m h Q) args h fun vs h' => callF Γ f vs h' Q
    | .ListComp (.UnaryOp .USub (.Name y _) _) [⟨.Name x _, it, [], _⟩] _ _ => y = x ∧ evE Γ n it m h fun v h' => (match v with
      | .d (.t as) => (match atInts as with
        | some ns => ns.length ≤ 1000 ∧ Q (.ref h'.length) (h' ++ [.list (ns.map fun k => .a (.int (-k)))])
        | .none => False)
      | _ => False)
    | _ => False
noncomputable def evT (Γ : Gam) : Nat → Expr → Loc → Hp → (Bool → Hp → Prop) → Prop
  | 0, _, _, _, _ => False
  | n + 1, e, m, h, Q => match e with
    | .UnaryOp .Not x _ => evT Γ n x m h fun b h' => Q (!b) h'
    | .BoolOp op es _ => evAll (fun e h Q => evT Γ n e m h Q) op es h Q
    | .Compare l [op] [r] _ => evE Γ n l m h fun a h1 => evE Γ n r m h1 fun b h2 => cmpop op a b h2 fun c => Q c h2
    | .IfExp .. => False
    | e => evE Γ n e m h fun v h' => (match v with | .d (.a (.bool b)) => Q b h' | _ => False)
end

/-- a for's turns over the values that it draws: by what holds between them -/
noncomputable def turns (step : V → Loc → Hp → (Fl → Loc → Hp → Prop) → Prop) (ok : Hp → Prop) (n₀ : Nat) (items : List V) (m : Loc) (h : Hp) (Q : Fl → Loc → Hp → Prop) : Prop :=
  ∃ I : Nat → Loc → Hp → Prop, I 0 m h ∧ (∀ k m h, I k m h → ok h) ∧
    (∀ k v m h, items[k]? = some v → I k m h → step v m h fun fl m' h' => match fl with
      | .next => ∃ m'', Weak n₀ m' m'' ∧ I (k + 1) m'' (h'.take n₀)
      | .ret r => Q (.ret r) m' h') ∧
    ∀ m h, I items.length m h → Q .next m h

noncomputable def hasL (m : Loc) (x : Str) : Prop := (lget m x).isSome = true

/-! looks into the tree -/
/-- what stands at an expression's head -/
inductive EH where
  | name (x : Str) (p : Pos)
  | un (op : UnaryOp) (e : Expr)
  | cmp (l : Expr) (ops : List CmpOp) (rs : List Expr)
  | const (c : Const)
  | sub (o i : Expr)
  | tup (es : List Expr)
  | meth (o : Expr) (n : Str) (p : Pos)
  | slc (lo hi st : Option Expr)
  | other
noncomputable def eh : Expr → EH
  | .Name x p => .name x p
  | .UnaryOp op e _ => .un op e
  | .Compare l ops rs _ => .cmp l ops rs
  | .Constant c _ _ => .const c
  | .Subscript o i _ => .sub o i
  | .Tuple es _ _ => .tup es
  | .Attribute o n p => .meth o n p
  | .Slice lo hi st _ => .slc lo hi st
  | _ => .other
noncomputable def EH.is : EH → Expr → Prop
  | .name x p, e => e = .Name x p
  | .un op e1, e => ∃ p, e = .UnaryOp op e1 p
  | .cmp l ops rs, e => ∃ p, e = .Compare l ops rs p
  | .const c, e => ∃ k p, e = .Constant c k p
  | .sub o i, e => ∃ p, e = .Subscript o i p
  | .tup es, e => ∃ k p, e = .Tuple es k p
  | .meth o n p, e => e = .Attribute o n p
  | .slc lo hi st, e => ∃ p, e = .Slice lo hi st p
  | .other, _ => True
theorem eh_is (e : Expr) : (eh e).is e := by
  cases e <;> first | exact trivial | exact rfl | exact ⟨_, rfl⟩ | exact ⟨_, _, rfl⟩
noncomputable def nameOf (e : Expr) : Option Str := match eh e with
  | .name x _ => some x
  | _ => .none
noncomputable def usubOf (e : Expr) : Option Expr := match eh e with
  | .un op e => (match op with
    | .USub => some e
    | _ => .none)
  | _ => .none
noncomputable def cmpOf (e : Expr) : Option (Expr × List CmpOp × List Expr) := match eh e with
  | .cmp l ops rs => some (l, ops, rs)
  | _ => .none
noncomputable def constOf (e : Expr) : Option Const := match eh e with
  | .const c => some c
  | _ => .none
noncomputable def onlyOf {α : Type} : List α → Option α
  | x :: r => (match r with
    | [] => some x
    | _ => .none)
  | [] => .none
noncomputable def nilOf {α : Type} : List α → Option Unit
  | [] => some ()
  | _ => .none
noncomputable def inOf : CmpOp → Option Unit
  | .In => some ()
  | _ => .none
noncomputable def ifOf : Stmt → Option (Expr × List Stmt × List Stmt)
  | .If t c o _ => some (t, c, o)
  | _ => .none
noncomputable def retOf : Stmt → Option Expr
  | .Return v _ => v
  | _ => .none
noncomputable def trueOf : Const → Option Unit
  | .bool b => (match b with
    | true => some ()
    | false => .none)
  | _ => .none
noncomputable def headOf {α : Type} : List α → Option (α × List α)
  | x :: r => some (x, r)
  | [] => .none
noncomputable def inTail (ops : List CmpOp) (rs : List Expr) : Option Str := (onlyOf ops).bind fun op => (inOf op).bind fun _ => (onlyOf rs).bind nameOf
noncomputable def negTest (t : Expr) : Option (Str × Str) := (cmpOf t).bind fun z => (usubOf z.1).bind fun l1 => (nameOf l1).bind fun x' => (inTail z.2.1 z.2.2).bind fun y' => some (x', y')
noncomputable def retTrue (c : List Stmt) : Option Unit := (onlyOf c).bind fun c => (retOf c).bind fun v => (constOf v).bind trueOf
noncomputable def negIf (s : Stmt) : Option (Str × Str) := (ifOf s).bind fun q => (negTest q.1).bind fun z => (retTrue q.2.1).bind fun _ => (nilOf q.2.2).bind fun _ => some z
/-- a for over a set that seeks an opposite -/
noncomputable def negOf (it : Expr) (b : List Stmt) : Option (Str × Str × Str) :=
  (nameOf it).bind fun y => (headOf b).bind fun s => (negIf s.1).bind fun z => (nilOf s.2).bind fun _ => some (y, z.1, z.2)

mutual
noncomputable def evS (Γ : Gam) : Nat → Stmt → Loc → Hp → (Fl → Loc → Hp → Prop) → Prop
  | 0, _, _, _, _ => False
  | n + 1, s, m, h, Q => match s with
    | .Expr e _ => evE Γ n e m h fun _ h' => Q .next m h'
    | .Assign [.Name x _] e _ => evE Γ n e m h fun v h' => hasL m x ∧ Q .next (lset m x v) h'
    | .Assign [.Tuple [.Name x _, .Name y _] _ _] e _ => evE Γ n e m h fun v h' => (match v with
      | .d (.t [a, b]) => hasL m x ∧ hasL m y ∧ Q .next (lset (lset m x (.d (.a a))) y (.d (.a b))) h'
      | _ => False)
    | .Assign [.Subscript o i _] e _ => evE Γ n e m h fun v h1 => evE Γ n o m h1 fun ov h2 => evE Γ n i m h2 fun iv h3 => setIt ov iv v h3 fun h4 => Q .next m h4
    | .AugAssign (.Name x _) op e _ => (match lget m x with
      | some a => a ≠ .undef ∧ evE Γ n e m h fun b h1 => inop op a b h1 fun r h2 => Q .next (lset m x r) h2
      | .none => False)
    | .AugAssign (.Subscript o (.Constant (.int i) k p) _) op e _ => evE Γ n o m h fun ov h1 => evE Γ n (.Constant (.int i) k p) m h1 fun iv h2 => getIt ov iv h2 fun old =>
        evE Γ n e m h2 fun b h3 => inop op old b h3 fun r h4 => setIt ov iv r h4 fun h5 => Q .next m h5
    | .If t b o _ => evT Γ n t m h fun c h' => if c = true then evB Γ n b m h' Q else evB Γ n o m h' Q
    | .While t b [] _ => ∃ (I : Nat → Loc → Hp → Prop) (k : Nat), I k m h ∧ ∀ k m' h', I k m' h' → h.length ≤ h'.length ∧ evT Γ n t m' h' fun c h1 =>
        if c = true then evB Γ n b m' h1 fun fl m2 h2 => (match fl with
          | .next => ∃ k' m3, k' < k ∧ Weak h.length m2 m3 ∧ I k' m3 (h2.take h.length)
          | .ret r => Q (.ret r) m2 h2)
        else Q .next m' h1
    | .For (.Name x _) it b [] _ => (match negOf it b with
      | some (y, x', y') => x = x' ∧ y = y' ∧ x ≠ y ∧ hasL m x ∧ (match lget m y with
        | some (.ref i) => (match stAt h i with
          | some ns => ns.length ≤ 1000 ∧ Q (if ns.any (fun l => decide (-l ∈ ns)) then .ret (.bool true) else .next) (lset m x .undef) h
          | .none => False)
        | _ => False)
      | .none => evE Γ n it m h fun v h' => (match v with
        | .range a b' c => a.natAbs ≤ 1000 ∧ b'.natAbs ≤ 1000 ∧ (c = 1 ∨ c = -1) ∧ turns (fun v m h Q => hasL m x ∧ evB Γ n b (lset m x v) h Q) (fun _ => True) h'.length ((rangeList a b' c).map .int) m h' Q
        | .d (.t as) => turns (fun v m h Q => hasL m x ∧ evB Γ n b (lset m x v) h Q) (fun _ => True) h'.length (as.map fun y => .d (.a y)) m h' Q
        | .ref i => (match lsAt h' i with
          | some xs => xs.length ≤ 100000 ∧ turns (fun v m h Q => hasL m x ∧ evB Γ n b (lset m x v) h Q) (fun h2 => lsAt h2 i = some xs) h'.length (xs.map .d) m h' Q
          | .none => False)
        | _ => False))
    | .Return (some e) _ => evE Γ n e m h fun v h' => Q (.ret v) m h'
    | _ => False
noncomputable def evB (Γ : Gam) : Nat → List Stmt → Loc → Hp → (Fl → Loc → Hp → Prop) → Prop
  | 0, _, _, _, _ => False
  | n + 1, ss, m, h, Q => match ss with
    | [] => Q .next m h
    | s :: rest => evS Γ n s m h fun fl m' h' => match fl with
      | .next => evB Γ n rest m' h' Q
      | .ret r => Q (.ret r) m' h'
end

/-- a def of the text: where it stands, its parts -/
noncomputable def defAt (i : Nat) : Option (Str × Arguments × List Stmt × Scope) := match PySem.Challenge.pw_sj0026_01.main.body[i]? with
  | some (.FunctionDef name args body _ _ _ scope _ _ _) => some (name, args, body, scope)
  | _ => .none
noncomputable def nameAt (i : Nat) : Str := match defAt i with | some (n, _) => n | .none => Str.empty
noncomputable def bodyAt (i : Nat) : List Stmt := match defAt i with | some (_, _, b, _) => b | .none => []
noncomputable def scopeAt (i : Nat) : Scope := match defAt i with | some (_, _, _, s) => s | .none => { kind := .function, names := [], isGenerator := false, isCoroutine := false }
noncomputable def paramsAt (i : Nat) : List Str := match defAt i with | some (_, a, _, _) => a.args.map (·.arg) | .none => []
noncomputable def localsAt (i : Nat) : List Str := ((scopeAt i).names.filter fun x => x.2 == .local).map (·.1)
noncomputable def initLoc (ls ps : List Str) (vs : List V) : Loc := ls.map fun x => (x, ((ps.zip vs).lookup x).getD .undef)

noncomputable def RetQ (h h' : Hp) (r : V) : Fl → Loc → Hp → Prop := fun fl _ h2 => fl = .ret r ∧ r.below h'.length ∧ h.length ≤ h'.length ∧ h' = h2.take h'.length
/-- the def does what the relation says -/
noncomputable def FnOk (Γ : Gam) (i : Nat) (spec : List V → Hp → V → Hp → Prop) : Prop :=
  ∀ vs h r h', spec vs h r h' → vs.length = (paramsAt i).length ∧ (∀ v ∈ vs, v ≠ .undef) ∧
    evB Γ 60 (bodyAt i) (initLoc (localsAt i) (paramsAt i) vs) h (RetQ h h' r)
theorem mem_lIns {s : List Int} {k x : Int} : x ∈ lIns s k ↔ x ∈ s ∨ x = k := by
  unfold lIns
  split
  · rename_i h
    constructor
    · exact .inl
    · rintro (h2 | rfl)
      · exact h2
      · exact h
  · simp
theorem mem_lUni {t : List Int} : ∀ {s : List Int} {x : Int}, x ∈ lUni s t ↔ x ∈ s ∨ x ∈ t := by
  induction t with
  | nil => intro s x; simp [lUni]
  | cons k t ih =>
    intro s x
    show x ∈ lUni (lIns s k) t ↔ _
    rw [ih, mem_lIns]
    simp [or_assoc]
theorem mem_lDed {t : List Int} {x : Int} : x ∈ lDed t ↔ x ∈ t := by unfold lDed; rw [mem_lUni]; simp
theorem len_lIns {s : List Int} {k : Int} : (lIns s k).length ≤ s.length + 1 := by
  unfold lIns; split <;> simp
theorem len_lUni {t : List Int} : ∀ {s : List Int}, (lUni s t).length ≤ s.length + t.length := by
  induction t with
  | nil => intro s; simp [lUni]
  | cons k t ih =>
    intro s
    have := ih (s := lIns s k)
    have := len_lIns (s := s) (k := k)
    show (lUni (lIns s k) t).length ≤ _
    rw [List.length_cons]
    lia
theorem nodup_lIns {s : List Int} {k : Int} (h : s.Nodup) : (lIns s k).Nodup := by
  unfold lIns
  split
  · exact h
  · rename_i hk
    rw [List.nodup_append]
    exact ⟨h, by simp, fun a ha b hb => by rw [List.mem_singleton.mp hb]; rintro rfl; exact hk ha⟩

theorem sub_len {α : Type} [DecidableEq α] : ∀ {l U : List α}, l.Nodup → (∀ x ∈ l, x ∈ U) → l.length ≤ U.length
  | [], U, _, _ => Nat.zero_le _
  | x :: l, U, hn, hs => by
    rw [List.nodup_cons] at hn
    have hx : x ∈ U := hs x (.head _)
    have := sub_len (l := l) (U := U.erase x) hn.2 fun y hy => by
      rw [List.mem_erase_of_ne (fun e : y = x => hn.1 (by rw [← e]; exact hy))]
      exact hs y (.tail _ hy)
    rw [List.length_erase_of_mem hx] at this
    have := List.length_pos_of_mem hx
    rw [List.length_cons]
    lia

theorem nodup_lUni {t : List Int} : ∀ {s : List Int}, s.Nodup → (lUni s t).Nodup := by
  induction t with
  | nil => intro s h; exact h
  | cons k t ih => intro s h; exact ih (s := lIns s k) (nodup_lIns h)
end Mine

/-! R1 -/
namespace Mine
open PySem

section
variable {Γ : Gam} {n : Nat} {m : Loc} {h : Hp}

theorem rvB_cons {s : Stmt} {r : List Stmt} {Q : Fl → Loc → Hp → Prop} : evB Γ (n + 1) (s :: r) m h Q = evS Γ n s m h fun fl m' h' => match fl with
      | .next => evB Γ n r m' h' Q
      | .ret v => Q (.ret v) m' h' := rfl
theorem rvS_Expr {e : Expr} {p : Pos} {Q : Fl → Loc → Hp → Prop} : evS Γ (n + 1) (.Expr e p) m h Q = evE Γ n e m h fun _ h' => Q .next m h' := rfl
theorem rvS_Assign {x : Str} {e : Expr} {p q : Pos} {Q : Fl → Loc → Hp → Prop} : evS Γ (n + 1) (.Assign [.Name x p] e q) m h Q = evE Γ n e m h fun v h' => hasL m x ∧ Q .next (lset m x v) h' := rfl
theorem rvS_Assign2 {x y : Str} {e : Expr} {k : Nat} {p q r t : Pos} {Q : Fl → Loc → Hp → Prop} : evS Γ (n + 1) (.Assign [.Tuple [.Name x p, .Name y q] k r] e t) m h Q = evE Γ n e m h fun v h' => (match v with
      | .d (.t [a, b]) => hasL m x ∧ hasL m y ∧ Q .next (lset (lset m x (.d (.a a))) y (.d (.a b))) h'
      | _ => False) := rfl
theorem rvS_AssignSub {o i e : Expr} {p q : Pos} {Q : Fl → Loc → Hp → Prop} : evS Γ (n + 1) (.Assign [.Subscript o i p] e q) m h Q = evE Γ n e m h fun v h1 => evE Γ n o m h1 fun ov h2 => evE Γ n i m h2 fun iv h3 => setIt ov iv v h3 fun h4 => Q .next m h4 := rfl
theorem rvS_Aug {x : Str} {op : Operator} {e : Expr} {p q : Pos} {Q : Fl → Loc → Hp → Prop} : evS Γ (n + 1) (.AugAssign (.Name x p) op e q) m h Q = (match lget m x with
      | some a => a ≠ .undef ∧ evE Γ n e m h fun b h1 => inop op a b h1 fun r h2 => Q .next (lset m x r) h2
      | .none => False) := rfl
theorem rvS_AugSub {o e : Expr} {op : Operator} {i : Int} {k : Nat} {p q r : Pos} {Q : Fl → Loc → Hp → Prop} : evS Γ (n + 1) (.AugAssign (.Subscript o (.Constant (.int i) k p) q) op e r) m h Q =
    evE Γ n o m h fun ov h1 => evE Γ n (.Constant (.int i) k p) m h1 fun iv h2 => getIt ov iv h2 fun old => evE Γ n e m h2 fun b h3 => inop op old b h3 fun r h4 => setIt ov iv r h4 fun h5 => Q .next m h5 := rfl
theorem rvS_If {t : Expr} {b o : List Stmt} {p : Pos} {Q : Fl → Loc → Hp → Prop} : evS Γ (n + 1) (.If t b o p) m h Q = evT Γ n t m h fun c h' => if c = true then evB Γ n b m h' Q else evB Γ n o m h' Q := rfl
theorem rvS_Return {e : Expr} {p : Pos} {Q : Fl → Loc → Hp → Prop} : evS Γ (n + 1) (.Return (some e) p) m h Q = evE Γ n e m h fun v h' => Q (.ret v) m h' := rfl

theorem rvE_Const {c : Const} {k : Nat} {p : Pos} {Q : V → Hp → Prop} : evE Γ (n + 1) (.Constant c k p) m h Q = (match constV c with | some v => Q v h | .none => False) := rfl
theorem rvE_Name {x : Str} {p : Pos} {Q : V → Hp → Prop} : evE Γ (n + 1) (.Name x p) m h Q = (match lget m x with
      | some v => v ≠ .undef ∧ Q v h
      | .none => (match tyOf x with | some t => Q (.ty t) h | .none => False)) := rfl
theorem rvE_Tuple {es : List Expr} {k : Nat} {p : Pos} {Q : V → Hp → Prop} : evE Γ (n + 1) (.Tuple es k p) m h Q = evEs (fun e h Q => evE Γ n e m h Q) es h fun vs h' => (match atoms vs with | some as => as.length ≤ 1000 ∧ Q (.tup as) h' | .none => False) := rfl
theorem rvE_List {es : List Expr} {p : Pos} {Q : V → Hp → Prop} : evE Γ (n + 1) (.List es p) m h Q = evEs (fun e h Q => evE Γ n e m h Q) es h fun vs h' => (match datas vs with | some ds => ds.length ≤ 1000 ∧ Q (.ref h'.length) (h' ++ [.list ds]) | .none => False) := rfl
theorem rvE_Unary {op : UnaryOp} {e : Expr} {p : Pos} {Q : V → Hp → Prop} : evE Γ (n + 1) (.UnaryOp op e p) m h Q = evE Γ n e m h fun v h' => unop op v fun r => Q r h' := rfl
theorem rvE_Bin {op : Operator} {l r : Expr} {p : Pos} {Q : V → Hp → Prop} : evE Γ (n + 1) (.BinOp l op r p) m h Q = evE Γ n l m h fun a h1 => evE Γ n r m h1 fun b h2 => binop op a b h2 Q := rfl
theorem rvE_Compare {op : CmpOp} {l r : Expr} {p : Pos} {Q : V → Hp → Prop} : evE Γ (n + 1) (.Compare l [op] [r] p) m h Q = evE Γ n l m h fun a h1 => evE Γ n r m h1 fun b h2 => cmpop op a b h2 fun c => Q (.bool c) h2 := rfl
theorem rvE_BoolOp {op : BoolOp} {es : List Expr} {p : Pos} {Q : V → Hp → Prop} : evE Γ (n + 1) (.BoolOp op es p) m h Q = evBo (fun e h Q => evE Γ n e m h Q) op es h Q := rfl
theorem rvE_IfExp {t a b : Expr} {p : Pos} {Q : V → Hp → Prop} : evE Γ (n + 1) (.IfExp t a b p) m h Q = evT Γ n t m h fun c h' => if c = true then evE Γ n a m h' Q else evE Γ n b m h' Q := rfl
theorem rvE_Slice {o : Expr} {lo hi : Option Expr} {p q : Pos} {Q : V → Hp → Prop} : evE Γ (n + 1) (.Subscript o (.Slice lo hi .none p) q) m h Q =
    evE Γ n o m h fun ov h1 => evPart (fun e h Q => evE Γ n e m h Q) lo h1 fun l h2 => evPart (fun e h Q => evE Γ n e m h Q) hi h2 fun u h3 => getSl ov l u h3 Q := rfl
theorem rvE_Meth {o : Expr} {name : Str} {args : List Expr} {p q : Pos} {Q : V → Hp → Prop} : evE Γ (n + 1) (.Call (.Attribute o name p) args [] q) m h Q =
    evE Γ n o m h fun ov h1 => methOk name ov h1 ∧ evEs (fun e h Q => evE Γ n e m h Q) args h1 fun vs h2 => meth name ov vs h2 Q := rfl
theorem rvE_Call {f : Str} {args : List Expr} {p q : Pos} {Q : V → Hp → Prop} : evE Γ (n + 1) (.Call (.Name f p) args [] q) m h Q = evEs (fun e h Q => evE Γ n e m h Q) args h fun vs h' => callF Γ f vs h' Q := rfl
theorem rvE_Comp {x y : Str} {it : Expr} {a : Int} {sc : Scope} {p q r t : Pos} {Q : V → Hp → Prop} : evE Γ (n + 1) (.ListComp (.UnaryOp .USub (.Name y p) q) [⟨.Name x r, it, [], a⟩] sc t) m h Q = (y = x ∧ evE Γ n it m h fun v h' => (match v with
      | .d (.t as) => (match atInts as with
        | some ns => ns.length ≤ 1000 ∧ Q (.ref h'.length) (h' ++ [.list (ns.map fun k => .a (.int (-k)))])
        | .none => False)
      | _ => False)) := rfl

theorem rvT_Not {x : Expr} {p : Pos} {Q : Bool → Hp → Prop} : evT Γ (n + 1) (.UnaryOp .Not x p) m h Q = evT Γ n x m h fun b h' => Q (!b) h' := rfl
theorem rvT_BoolOp {op : BoolOp} {es : List Expr} {p : Pos} {Q : Bool → Hp → Prop} : evT Γ (n + 1) (.BoolOp op es p) m h Q = Mine.evAll (fun e h Q => evT Γ n e m h Q) op es h Q := rfl
theorem rvT_Compare {op : CmpOp} {l r : Expr} {p : Pos} {Q : Bool → Hp → Prop} : evT Γ (n + 1) (.Compare l [op] [r] p) m h Q = evE Γ n l m h fun a h1 => evE Γ n r m h1 fun b h2 => cmpop op a b h2 fun c => Q c h2 := rfl
theorem rvT_Name {x : Str} {p : Pos} {Q : Bool → Hp → Prop} : evT Γ (n + 1) (.Name x p) m h Q = evE Γ n (.Name x p) m h fun v h' => (match v with | .d (.a (.bool b)) => Q b h' | _ => False) := rfl
theorem rvT_Call {f : Expr} {as : List Expr} {ks : List Keyword} {p : Pos} {Q : Bool → Hp → Prop} : evT Γ (n + 1) (.Call f as ks p) m h Q = evE Γ n (.Call f as ks p) m h fun v h' => (match v with | .d (.a (.bool b)) => Q b h' | _ => False) := rfl
theorem rvT_Const {c : Const} {k : Nat} {p : Pos} {Q : Bool → Hp → Prop} : evT Γ (n + 1) (.Constant c k p) m h Q = evE Γ n (.Constant c k p) m h fun v h' => (match v with | .d (.a (.bool b)) => Q b h' | _ => False) := rfl

theorem rvS_While {t : Expr} {b : List Stmt} {q : Pos} {Q : Fl → Loc → Hp → Prop} : evS Γ (n + 1) (.While t b [] q) m h Q =
   ∃ (I : Nat → Loc → Hp → Prop) (k : Nat), I k m h ∧ ∀ k m' h', I k m' h' → h.length ≤ h'.length ∧ evT Γ n t m' h' fun c h1 =>
        if c = true then evB Γ n b m' h1 fun fl m2 h2 => (match fl with
          | .next => ∃ k' m3, k' < k ∧ Weak h.length m2 m3 ∧ I k' m3 (h2.take h.length)
          | .ret r => Q (.ret r) m2 h2)
        else Q .next m' h1 := rfl
theorem rvS_ForNeg {x y x' y' : Str} {p1 p2 p3 p4 p5 p6 p7 p8 p9 q : Pos} {c : Nat} {Q : Fl → Loc → Hp → Prop} : evS Γ (n + 1) (.For (.Name x p1) (.Name y p2) [.If (.Compare (.UnaryOp .USub (.Name x' p3) p4) [.In] [.Name y' p5] p6) [.Return (some (.Constant (.bool true) c p9)) p7] [] p8] [] q) m h Q =
   (x = x' ∧ y = y' ∧ x ≠ y ∧ hasL m x ∧ (match lget m y with
        | some (.ref i) => (match stAt h i with
          | some ns => ns.length ≤ 1000 ∧ Q (if ns.any (fun l => decide (-l ∈ ns)) then .ret (.bool true) else .next) (lset m x .undef) h
          | .none => False)
        | _ => False)) := rfl

end
end Mine

/-! P1 -/
namespace Mine
open PySem

theorem ofString_inj {a b : String} : (Str.ofString a = Str.ofString b) = (a = b) := by
  apply propext
  constructor
  · intro h
    rw [Str.ofString_eq_toList, Str.ofString_eq_toList] at h
    injection h with h
    have h2 : a.toList.map Char.toNat = b.toList.map Char.toNat := by simpa using h
    have inj : ∀ (x y : List Char), x.map Char.toNat = y.map Char.toNat → x = y := by
      intro x
      induction x with
      | nil => intro y hy; cases y with
        | nil => rfl
        | cons _ _ => simp at hy
      | cons c x ih => intro y hy; cases y with
        | nil => simp at hy
        | cons d y =>
          simp only [List.map_cons, List.cons.injEq] at hy
          rw [Char.toNat_inj.mp hy.1, ih y hy.2]
    exact String.toList_inj.mp (inj _ _ h2)
  · rintro rfl; rfl
theorem ofString_beq {a b : String} : (Str.ofString a == Str.ofString b) = (a == b) := by
  rw [Bool.eq_iff_iff, beq_iff_eq, beq_iff_eq, ofString_inj]

/-! what is still to be done, by name -/
noncomputable def fE (Γ : Gam) (n : Nat) (m : Loc) : Expr → Hp → (V → Hp → Prop) → Prop := fun e h Q => evE Γ n e m h Q
noncomputable def fT (Γ : Gam) (n : Nat) (m : Loc) : Expr → Hp → (Bool → Hp → Prop) → Prop := fun e h Q => evT Γ n e m h Q
noncomputable def kB (Γ : Gam) (n : Nat) (r : List Stmt) (Q : Fl → Loc → Hp → Prop) : Fl → Loc → Hp → Prop := fun fl m' h' => match fl with
  | .next => evB Γ n r m' h' Q
  | .ret v => Q (.ret v) m' h'
noncomputable def kX (m : Loc) (Q : Fl → Loc → Hp → Prop) : V → Hp → Prop := fun _ h' => Q .next m h'
noncomputable def kAs (m : Loc) (x : Str) (Q : Fl → Loc → Hp → Prop) : V → Hp → Prop := fun v h' => hasL m x ∧ Q .next (lset m x v) h'
noncomputable def kAs2 (m : Loc) (x y : Str) (Q : Fl → Loc → Hp → Prop) : V → Hp → Prop := fun v h' => (match v with
  | .d (.t [a, b]) => hasL m x ∧ hasL m y ∧ Q .next (lset (lset m x (.d (.a a))) y (.d (.a b))) h'
  | _ => False)
noncomputable def kN (m : Loc) (Q : Fl → Loc → Hp → Prop) : Hp → Prop := fun h' => Q .next m h'
noncomputable def kS3 (m : Loc) (v ov : V) (Q : Fl → Loc → Hp → Prop) : V → Hp → Prop := fun iv h3 => setIt ov iv v h3 (kN m Q)
noncomputable def kS2 (Γ : Gam) (n : Nat) (i : Expr) (m : Loc) (v : V) (Q : Fl → Loc → Hp → Prop) : V → Hp → Prop := fun ov h2 => evE Γ n i m h2 (kS3 m v ov Q)
noncomputable def kS1 (Γ : Gam) (n : Nat) (o i : Expr) (m : Loc) (Q : Fl → Loc → Hp → Prop) : V → Hp → Prop := fun v h1 => evE Γ n o m h1 (kS2 Γ n i m v Q)
noncomputable def kA2 (m : Loc) (x : Str) (Q : Fl → Loc → Hp → Prop) : V → Hp → Prop := fun r h2 => Q .next (lset m x r) h2
noncomputable def kA1 (m : Loc) (x : Str) (op : Operator) (a : V) (Q : Fl → Loc → Hp → Prop) : V → Hp → Prop := fun b h1 => inop op a b h1 (kA2 m x Q)
noncomputable def kA0 (Γ : Gam) (n : Nat) (m : Loc) (x : Str) (op : Operator) (e : Expr) (h : Hp) (Q : Fl → Loc → Hp → Prop) : Option V → Prop
  | some a => a ≠ .undef ∧ evE Γ n e m h (kA1 m x op a Q)
  | .none => False
noncomputable def kG5 (m : Loc) (ov iv : V) (Q : Fl → Loc → Hp → Prop) : V → Hp → Prop := fun r h4 => setIt ov iv r h4 (kN m Q)
noncomputable def kG4 (m : Loc) (op : Operator) (ov iv old : V) (Q : Fl → Loc → Hp → Prop) : V → Hp → Prop := fun b h3 => inop op old b h3 (kG5 m ov iv Q)
noncomputable def kG3 (Γ : Gam) (n : Nat) (m : Loc) (op : Operator) (e : Expr) (ov iv : V) (h2 : Hp) (Q : Fl → Loc → Hp → Prop) : V → Prop := fun old => evE Γ n e m h2 (kG4 m op ov iv old Q)
noncomputable def kG2 (Γ : Gam) (n : Nat) (m : Loc) (op : Operator) (e : Expr) (ov : V) (Q : Fl → Loc → Hp → Prop) : V → Hp → Prop := fun iv h2 => getIt ov iv h2 (kG3 Γ n m op e ov iv h2 Q)
noncomputable def kG1 (Γ : Gam) (n : Nat) (m : Loc) (op : Operator) (e i : Expr) (Q : Fl → Loc → Hp → Prop) : V → Hp → Prop := fun ov h1 => evE Γ n i m h1 (kG2 Γ n m op e ov Q)
noncomputable def kIf (Γ : Gam) (n : Nat) (b o : List Stmt) (m : Loc) (Q : Fl → Loc → Hp → Prop) : Bool → Hp → Prop := fun c h' => if c = true then evB Γ n b m h' Q else evB Γ n o m h' Q
noncomputable def kR (m : Loc) (Q : Fl → Loc → Hp → Prop) : V → Hp → Prop := fun v h' => Q (.ret v) m h'
noncomputable def kNm (x : Str) (h : Hp) (Q : V → Hp → Prop) : Option V → Prop
  | some v => v ≠ .undef ∧ Q v h
  | .none => (match tyOf x with | some t => Q (.ty t) h | .none => False)
noncomputable def kTup (Q : V → Hp → Prop) : List V → Hp → Prop := fun vs h' => (match atoms vs with | some as => as.length ≤ 1000 ∧ Q (.tup as) h' | .none => False)
noncomputable def kLst (Q : V → Hp → Prop) : List V → Hp → Prop := fun vs h' => (match datas vs with | some ds => ds.length ≤ 1000 ∧ Q (.ref h'.length) (h' ++ [.list ds]) | .none => False)
noncomputable def kV (h : Hp) (Q : V → Hp → Prop) : V → Prop := fun r => Q r h
noncomputable def kUn (op : UnaryOp) (Q : V → Hp → Prop) : V → Hp → Prop := fun v h' => unop op v (kV h' Q)
noncomputable def kBi2 (op : Operator) (a : V) (Q : V → Hp → Prop) : V → Hp → Prop := fun b h2 => binop op a b h2 Q
noncomputable def kBi1 (Γ : Gam) (n : Nat) (r : Expr) (m : Loc) (op : Operator) (Q : V → Hp → Prop) : V → Hp → Prop := fun a h1 => evE Γ n r m h1 (kBi2 op a Q)
noncomputable def kC3 (h : Hp) (Q : V → Hp → Prop) : Bool → Prop := fun c => Q (.bool c) h
noncomputable def kC2 (op : CmpOp) (a : V) (Q : V → Hp → Prop) : V → Hp → Prop := fun b h2 => cmpop op a b h2 (kC3 h2 Q)
noncomputable def kC1 (Γ : Gam) (n : Nat) (r : Expr) (m : Loc) (op : CmpOp) (Q : V → Hp → Prop) : V → Hp → Prop := fun a h1 => evE Γ n r m h1 (kC2 op a Q)
noncomputable def kIfE (Γ : Gam) (n : Nat) (a b : Expr) (m : Loc) (Q : V → Hp → Prop) : Bool → Hp → Prop := fun c h' => if c = true then evE Γ n a m h' Q else evE Γ n b m h' Q
noncomputable def kSl3 (ov : V) (l : Option Int) (Q : V → Hp → Prop) : Option Int → Hp → Prop := fun u h3 => getSl ov l u h3 Q
noncomputable def kSl2 (Γ : Gam) (n : Nat) (hi : Option Expr) (m : Loc) (ov : V) (Q : V → Hp → Prop) : Option Int → Hp → Prop := fun l h2 => evPart (fE Γ n m) hi h2 (kSl3 ov l Q)
noncomputable def kSl1 (Γ : Gam) (n : Nat) (lo hi : Option Expr) (m : Loc) (Q : V → Hp → Prop) : V → Hp → Prop := fun ov h1 => evPart (fE Γ n m) lo h1 (kSl2 Γ n hi m ov Q)
noncomputable def kIx2 (ov : V) (Q : V → Hp → Prop) : V → Hp → Prop := fun iv h2 => getIt ov iv h2 (kV h2 Q)
noncomputable def kIx1 (Γ : Gam) (n : Nat) (i : Expr) (m : Loc) (Q : V → Hp → Prop) : V → Hp → Prop := fun ov h1 => evE Γ n i m h1 (kIx2 ov Q)
noncomputable def kM2 (name : Str) (ov : V) (Q : V → Hp → Prop) : List V → Hp → Prop := fun vs h2 => meth name ov vs h2 Q
noncomputable def kM1 (Γ : Gam) (n : Nat) (name : Str) (args : List Expr) (m : Loc) (Q : V → Hp → Prop) : V → Hp → Prop := fun ov h1 => methOk name ov h1 ∧ evEs (fE Γ n m) args h1 (kM2 name ov Q)
noncomputable def kCa (Γ : Gam) (f : Str) (Q : V → Hp → Prop) : List V → Hp → Prop := fun vs h' => callF Γ f vs h' Q
noncomputable def kCo (Q : V → Hp → Prop) : V → Hp → Prop := fun v h' => (match v with
      | .d (.t as) => (match atInts as with
        | some ns => ns.length ≤ 1000 ∧ Q (.ref h'.length) (h' ++ [.list (ns.map fun k => .a (.int (-k)))])
        | .none => False)
      | _ => False)
noncomputable def kNot (Q : Bool → Hp → Prop) : Bool → Hp → Prop := fun b h' => Q (!b) h'
noncomputable def kTC3 (h : Hp) (Q : Bool → Hp → Prop) : Bool → Prop := fun c => Q c h
noncomputable def kTC2 (op : CmpOp) (a : V) (Q : Bool → Hp → Prop) : V → Hp → Prop := fun b h2 => cmpop op a b h2 (kTC3 h2 Q)
noncomputable def kTC1 (Γ : Gam) (n : Nat) (r : Expr) (m : Loc) (op : CmpOp) (Q : Bool → Hp → Prop) : V → Hp → Prop := fun a h1 => evE Γ n r m h1 (kTC2 op a Q)
noncomputable def kTB (Q : Bool → Hp → Prop) : V → Hp → Prop := fun v h' => (match v with | .d (.a (.bool b)) => Q b h' | _ => False)
noncomputable def kE2 (v : V) (Q : List V → Hp → Prop) : List V → Hp → Prop := fun vs h'' => Q (v :: vs) h''
noncomputable def kE1 (f : Expr → Hp → (V → Hp → Prop) → Prop) (es : List Expr) (Q : List V → Hp → Prop) : V → Hp → Prop := fun v h' => evEs f es h' (kE2 v Q)
section
variable {Γ : Gam} {n : Nat} {m : Loc} {h : Hp}

theorem fE_ap {e : Expr} {Q : V → Hp → Prop} : fE Γ n m e h Q = evE Γ n e m h Q := rfl
theorem fT_ap {e : Expr} {Q : Bool → Hp → Prop} : fT Γ n m e h Q = evT Γ n e m h Q := rfl
theorem kB_next {r : List Stmt} {Q : Fl → Loc → Hp → Prop} : kB Γ n r Q .next m h = evB Γ n r m h Q := rfl
theorem kB_ret {r : List Stmt} {v : V} {Q : Fl → Loc → Hp → Prop} : kB Γ n r Q (.ret v) m h = Q (.ret v) m h := rfl
theorem kX_ap {v : V} {Q : Fl → Loc → Hp → Prop} : kX m Q v h = Q .next m h := rfl
theorem kAs_ap {x : Str} {v : V} {Q : Fl → Loc → Hp → Prop} : kAs m x Q v h = (hasL m x ∧ Q .next (lset m x v) h) := rfl
theorem kAs2_ap {x y : Str} {a b : At} {Q : Fl → Loc → Hp → Prop} : kAs2 m x y Q (.d (.t [a, b])) h = (hasL m x ∧ hasL m y ∧ Q .next (lset (lset m x (.d (.a a))) y (.d (.a b))) h) := rfl
theorem kN_ap {Q : Fl → Loc → Hp → Prop} : kN m Q h = Q .next m h := rfl
theorem kS3_ap {v ov iv : V} {Q : Fl → Loc → Hp → Prop} : kS3 m v ov Q iv h = setIt ov iv v h (kN m Q) := rfl
theorem kS2_ap {i : Expr} {v ov : V} {Q : Fl → Loc → Hp → Prop} : kS2 Γ n i m v Q ov h = evE Γ n i m h (kS3 m v ov Q) := rfl
theorem kS1_ap {o i : Expr} {v : V} {Q : Fl → Loc → Hp → Prop} : kS1 Γ n o i m Q v h = evE Γ n o m h (kS2 Γ n i m v Q) := rfl
theorem kA2_ap {x : Str} {r : V} {Q : Fl → Loc → Hp → Prop} : kA2 m x Q r h = Q .next (lset m x r) h := rfl
theorem kA1_ap {x : Str} {op : Operator} {a b : V} {Q : Fl → Loc → Hp → Prop} : kA1 m x op a Q b h = inop op a b h (kA2 m x Q) := rfl
theorem kA0_ap {x : Str} {op : Operator} {e : Expr} {a : V} {Q : Fl → Loc → Hp → Prop} : kA0 Γ n m x op e h Q (some a) = (a ≠ .undef ∧ evE Γ n e m h (kA1 m x op a Q)) := rfl
theorem kG5_ap {ov iv r : V} {Q : Fl → Loc → Hp → Prop} : kG5 m ov iv Q r h = setIt ov iv r h (kN m Q) := rfl
theorem kG4_ap {op : Operator} {ov iv old b : V} {Q : Fl → Loc → Hp → Prop} : kG4 m op ov iv old Q b h = inop op old b h (kG5 m ov iv Q) := rfl
theorem kG3_ap {op : Operator} {e : Expr} {ov iv old : V} {Q : Fl → Loc → Hp → Prop} : kG3 Γ n m op e ov iv h Q old = evE Γ n e m h (kG4 m op ov iv old Q) := rfl
theorem kG2_ap {op : Operator} {e : Expr} {ov iv : V} {Q : Fl → Loc → Hp → Prop} : kG2 Γ n m op e ov Q iv h = getIt ov iv h (kG3 Γ n m op e ov iv h Q) := rfl
theorem kG1_ap {op : Operator} {e i : Expr} {ov : V} {Q : Fl → Loc → Hp → Prop} : kG1 Γ n m op e i Q ov h = evE Γ n i m h (kG2 Γ n m op e ov Q) := rfl
theorem kIf_ap {b o : List Stmt} {c : Bool} {Q : Fl → Loc → Hp → Prop} : kIf Γ n b o m Q c h = if c = true then evB Γ n b m h Q else evB Γ n o m h Q := rfl
theorem kR_ap {v : V} {Q : Fl → Loc → Hp → Prop} : kR m Q v h = Q (.ret v) m h := rfl
theorem kNm_some {x : Str} {v : V} {Q : V → Hp → Prop} : kNm x h Q (some v) = (v ≠ .undef ∧ Q v h) := rfl
theorem kNm_none {x : Str} {Q : V → Hp → Prop} : kNm x h Q none = (match tyOf x with | some t => Q (.ty t) h | .none => False) := rfl
theorem kTup_ap {vs : List V} {Q : V → Hp → Prop} : kTup Q vs h = (match atoms vs with | some as => as.length ≤ 1000 ∧ Q (.tup as) h | .none => False) := rfl
theorem kLst_ap {vs : List V} {Q : V → Hp → Prop} : kLst Q vs h = (match datas vs with | some ds => ds.length ≤ 1000 ∧ Q (.ref h.length) (h ++ [.list ds]) | .none => False) := rfl
theorem kV_ap {r : V} {Q : V → Hp → Prop} : kV h Q r = Q r h := rfl
theorem kUn_ap {op : UnaryOp} {v : V} {Q : V → Hp → Prop} : kUn op Q v h = unop op v (kV h Q) := rfl
theorem kBi2_ap {op : Operator} {a b : V} {Q : V → Hp → Prop} : kBi2 op a Q b h = binop op a b h Q := rfl
theorem kBi1_ap {r : Expr} {op : Operator} {a : V} {Q : V → Hp → Prop} : kBi1 Γ n r m op Q a h = evE Γ n r m h (kBi2 op a Q) := rfl
theorem kC3_ap {c : Bool} {Q : V → Hp → Prop} : kC3 h Q c = Q (.bool c) h := rfl
theorem kC2_ap {op : CmpOp} {a b : V} {Q : V → Hp → Prop} : kC2 op a Q b h = cmpop op a b h (kC3 h Q) := rfl
theorem kC1_ap {r : Expr} {op : CmpOp} {a : V} {Q : V → Hp → Prop} : kC1 Γ n r m op Q a h = evE Γ n r m h (kC2 op a Q) := rfl
theorem kIfE_ap {a b : Expr} {c : Bool} {Q : V → Hp → Prop} : kIfE Γ n a b m Q c h = if c = true then evE Γ n a m h Q else evE Γ n b m h Q := rfl
theorem kSl3_ap {ov : V} {l u : Option Int} {Q : V → Hp → Prop} : kSl3 ov l Q u h = getSl ov l u h Q := rfl
theorem kSl2_ap {hi : Option Expr} {ov : V} {l : Option Int} {Q : V → Hp → Prop} : kSl2 Γ n hi m ov Q l h = evPart (fE Γ n m) hi h (kSl3 ov l Q) := rfl
theorem kSl1_ap {lo hi : Option Expr} {ov : V} {Q : V → Hp → Prop} : kSl1 Γ n lo hi m Q ov h = evPart (fE Γ n m) lo h (kSl2 Γ n hi m ov Q) := rfl
theorem kIx2_ap {ov iv : V} {Q : V → Hp → Prop} : kIx2 ov Q iv h = getIt ov iv h (kV h Q) := rfl
theorem kIx1_ap {i : Expr} {ov : V} {Q : V → Hp → Prop} : kIx1 Γ n i m Q ov h = evE Γ n i m h (kIx2 ov Q) := rfl
theorem kM2_ap {name : Str} {ov : V} {vs : List V} {Q : V → Hp → Prop} : kM2 name ov Q vs h = meth name ov vs h Q := rfl
theorem kM1_ap {name : Str} {args : List Expr} {ov : V} {Q : V → Hp → Prop} : kM1 Γ n name args m Q ov h = (methOk name ov h ∧ evEs (fE Γ n m) args h (kM2 name ov Q)) := rfl
theorem kCa_ap {f : Str} {vs : List V} {Q : V → Hp → Prop} : kCa Γ f Q vs h = callF Γ f vs h Q := rfl
theorem kCo_ap {as : List At} {Q : V → Hp → Prop} : kCo Q (.d (.t as)) h = (match atInts as with
        | some ns => ns.length ≤ 1000 ∧ Q (.ref h.length) (h ++ [.list (ns.map fun k => .a (.int (-k)))])
        | .none => False) := rfl
theorem kNot_ap {b : Bool} {Q : Bool → Hp → Prop} : kNot Q b h = Q (!b) h := rfl
theorem kTC3_ap {c : Bool} {Q : Bool → Hp → Prop} : kTC3 h Q c = Q c h := rfl
theorem kTC2_ap {op : CmpOp} {a b : V} {Q : Bool → Hp → Prop} : kTC2 op a Q b h = cmpop op a b h (kTC3 h Q) := rfl
theorem kTC1_ap {r : Expr} {op : CmpOp} {a : V} {Q : Bool → Hp → Prop} : kTC1 Γ n r m op Q a h = evE Γ n r m h (kTC2 op a Q) := rfl
theorem kTB_ap {b : Bool} {Q : Bool → Hp → Prop} : kTB Q (.d (.a (.bool b))) h = Q b h := rfl
theorem kE2_ap {v : V} {vs : List V} {Q : List V → Hp → Prop} : kE2 v Q vs h = Q (v :: vs) h := rfl
theorem kE1_ap {f : Expr → Hp → (V → Hp → Prop) → Prop} {es : List Expr} {v : V} {Q : List V → Hp → Prop} : kE1 f es Q v h = evEs f es h (kE2 v Q) := rfl

theorem evB_nil {Q : Fl → Loc → Hp → Prop} : evB Γ (n + 1) [] m h Q = Q .next m h := rfl
theorem evB_cons {s : Stmt} {r : List Stmt} {Q : Fl → Loc → Hp → Prop} : evB Γ (n + 1) (s :: r) m h Q = evS Γ n s m h (kB Γ n r Q) := rfl
theorem evS_Expr {e : Expr} {p : Pos} {Q : Fl → Loc → Hp → Prop} : evS Γ (n + 1) (.Expr e p) m h Q = evE Γ n e m h (kX m Q) := rfl
theorem evS_Assign {x : Str} {e : Expr} {p q : Pos} {Q : Fl → Loc → Hp → Prop} : evS Γ (n + 1) (.Assign [.Name x p] e q) m h Q = evE Γ n e m h (kAs m x Q) := rfl
theorem evS_Assign2 {x y : Str} {e : Expr} {k : Nat} {p q r t : Pos} {Q : Fl → Loc → Hp → Prop} : evS Γ (n + 1) (.Assign [.Tuple [.Name x p, .Name y q] k r] e t) m h Q = evE Γ n e m h (kAs2 m x y Q) := rfl
theorem evS_AssignSub {o i e : Expr} {p q : Pos} {Q : Fl → Loc → Hp → Prop} : evS Γ (n + 1) (.Assign [.Subscript o i p] e q) m h Q = evE Γ n e m h (kS1 Γ n o i m Q) := rfl
theorem evS_Aug {x : Str} {op : Operator} {e : Expr} {p q : Pos} {Q : Fl → Loc → Hp → Prop} : evS Γ (n + 1) (.AugAssign (.Name x p) op e q) m h Q = kA0 Γ n m x op e h Q (lget m x) := rfl
theorem evS_AugSub {o e : Expr} {op : Operator} {i : Int} {k : Nat} {p q r : Pos} {Q : Fl → Loc → Hp → Prop} : evS Γ (n + 1) (.AugAssign (.Subscript o (.Constant (.int i) k p) q) op e r) m h Q =
    evE Γ n o m h (kG1 Γ n m op e (.Constant (.int i) k p) Q) := rfl
theorem evS_If {t : Expr} {b o : List Stmt} {p : Pos} {Q : Fl → Loc → Hp → Prop} : evS Γ (n + 1) (.If t b o p) m h Q = evT Γ n t m h (kIf Γ n b o m Q) := rfl
theorem evS_Return {e : Expr} {p : Pos} {Q : Fl → Loc → Hp → Prop} : evS Γ (n + 1) (.Return (some e) p) m h Q = evE Γ n e m h (kR m Q) := rfl

theorem evE_Name {x : Str} {p : Pos} {Q : V → Hp → Prop} : evE Γ (n + 1) (.Name x p) m h Q = kNm x h Q (lget m x) := rfl
theorem evE_Tuple {es : List Expr} {k : Nat} {p : Pos} {Q : V → Hp → Prop} : evE Γ (n + 1) (.Tuple es k p) m h Q = evEs (fE Γ n m) es h (kTup Q) := rfl
theorem evE_List {es : List Expr} {p : Pos} {Q : V → Hp → Prop} : evE Γ (n + 1) (.List es p) m h Q = evEs (fE Γ n m) es h (kLst Q) := rfl
theorem evE_Unary {op : UnaryOp} {e : Expr} {p : Pos} {Q : V → Hp → Prop} : evE Γ (n + 1) (.UnaryOp op e p) m h Q = evE Γ n e m h (kUn op Q) := rfl
theorem evE_Bin {op : Operator} {l r : Expr} {p : Pos} {Q : V → Hp → Prop} : evE Γ (n + 1) (.BinOp l op r p) m h Q = evE Γ n l m h (kBi1 Γ n r m op Q) := rfl
theorem evE_Compare {op : CmpOp} {l r : Expr} {p : Pos} {Q : V → Hp → Prop} : evE Γ (n + 1) (.Compare l [op] [r] p) m h Q = evE Γ n l m h (kC1 Γ n r m op Q) := rfl
theorem evE_BoolOp {op : BoolOp} {es : List Expr} {p : Pos} {Q : V → Hp → Prop} : evE Γ (n + 1) (.BoolOp op es p) m h Q = evBo (fE Γ n m) op es h Q := rfl
theorem evE_IfExp {t a b : Expr} {p : Pos} {Q : V → Hp → Prop} : evE Γ (n + 1) (.IfExp t a b p) m h Q = evT Γ n t m h (kIfE Γ n a b m Q) := rfl
theorem evE_Slice {o : Expr} {lo hi : Option Expr} {p q : Pos} {Q : V → Hp → Prop} : evE Γ (n + 1) (.Subscript o (.Slice lo hi .none p) q) m h Q = evE Γ n o m h (kSl1 Γ n lo hi m Q) := rfl
theorem evE_SubN {o : Expr} {x : Str} {p q : Pos} {Q : V → Hp → Prop} : evE Γ (n + 1) (.Subscript o (.Name x p) q) m h Q = evE Γ n o m h (kIx1 Γ n (.Name x p) m Q) := rfl
theorem evE_SubC {o : Expr} {x : Const} {k : Nat} {p q : Pos} {Q : V → Hp → Prop} : evE Γ (n + 1) (.Subscript o (.Constant x k p) q) m h Q = evE Γ n o m h (kIx1 Γ n (.Constant x k p) m Q) := rfl
theorem evE_SubB {o l r : Expr} {op : Operator} {p q : Pos} {Q : V → Hp → Prop} : evE Γ (n + 1) (.Subscript o (.BinOp l op r p) q) m h Q = evE Γ n o m h (kIx1 Γ n (.BinOp l op r p) m Q) := rfl
theorem evE_SubCall {o f : Expr} {as : List Expr} {ks : List Keyword} {p q : Pos} {Q : V → Hp → Prop} : evE Γ (n + 1) (.Subscript o (.Call f as ks p) q) m h Q = evE Γ n o m h (kIx1 Γ n (.Call f as ks p) m Q) := rfl
theorem evE_SubS {o l r : Expr} {p q : Pos} {Q : V → Hp → Prop} : evE Γ (n + 1) (.Subscript o (.Subscript l r p) q) m h Q = evE Γ n o m h (kIx1 Γ n (.Subscript l r p) m Q) := rfl
theorem evE_Meth {o : Expr} {name : Str} {args : List Expr} {p q : Pos} {Q : V → Hp → Prop} : evE Γ (n + 1) (.Call (.Attribute o name p) args [] q) m h Q = evE Γ n o m h (kM1 Γ n name args m Q) := rfl
theorem evE_Call {f : Str} {args : List Expr} {p q : Pos} {Q : V → Hp → Prop} : evE Γ (n + 1) (.Call (.Name f p) args [] q) m h Q = evEs (fE Γ n m) args h (kCa Γ f Q) := rfl
theorem evE_Comp {x y : Str} {it : Expr} {a : Int} {sc : Scope} {p q r t : Pos} {Q : V → Hp → Prop} : evE Γ (n + 1) (.ListComp (.UnaryOp .USub (.Name y p) q) [⟨.Name x r, it, [], a⟩] sc t) m h Q = (y = x ∧ evE Γ n it m h (kCo Q)) := rfl

theorem evT_Not {x : Expr} {p : Pos} {Q : Bool → Hp → Prop} : evT Γ (n + 1) (.UnaryOp .Not x p) m h Q = evT Γ n x m h (kNot Q) := rfl
theorem evT_BoolOp {op : BoolOp} {es : List Expr} {p : Pos} {Q : Bool → Hp → Prop} : evT Γ (n + 1) (.BoolOp op es p) m h Q = Mine.evAll (fT Γ n m) op es h Q := rfl
theorem evT_Compare {op : CmpOp} {l r : Expr} {p : Pos} {Q : Bool → Hp → Prop} : evT Γ (n + 1) (.Compare l [op] [r] p) m h Q = evE Γ n l m h (kTC1 Γ n r m op Q) := rfl
theorem evT_Name {x : Str} {p : Pos} {Q : Bool → Hp → Prop} : evT Γ (n + 1) (.Name x p) m h Q = evE Γ n (.Name x p) m h (kTB Q) := rfl
theorem evT_Call {f : Expr} {as : List Expr} {ks : List Keyword} {p : Pos} {Q : Bool → Hp → Prop} : evT Γ (n + 1) (.Call f as ks p) m h Q = evE Γ n (.Call f as ks p) m h (kTB Q) := rfl
theorem evT_Const {c : Const} {k : Nat} {p : Pos} {Q : Bool → Hp → Prop} : evT Γ (n + 1) (.Constant c k p) m h Q = evE Γ n (.Constant c k p) m h (kTB Q) := rfl

theorem evEs_nil {f : Expr → Hp → (V → Hp → Prop) → Prop} {Q : List V → Hp → Prop} : evEs f [] h Q = Q [] h := rfl
theorem evEs_cons {f : Expr → Hp → (V → Hp → Prop) → Prop} {e : Expr} {es : List Expr} {Q : List V → Hp → Prop} : evEs f (e :: es) h Q = f e h (kE1 f es Q) := rfl
theorem callF_user {f : Str} {vs : List V} {Q : V → Hp → Prop} (hf : f ∉ builtins) : callF Γ f vs h Q = ∃ r h', Γ f vs h r h' ∧ Q r h' := by unfold callF; rw [if_neg hf]
end

theorem cf_abs {Γ : Gam} {h : Hp} {i : Int} {Q : V → Hp → Prop} : callF Γ (Str.ofString "abs") [.d (.a (.int i))] h Q = Q (.int (i.natAbs : Int)) h := (rfl)
theorem cf_int {Γ : Gam} {h : Hp} {i : Int} {Q : V → Hp → Prop} : callF Γ (Str.ofString "int") [.d (.a (.int i))] h Q = Q (.int i) h := (rfl)
theorem lsAt_append {h : Hp} {o : O} {i : Nat} {xs : List D} (e : lsAt h i = some xs) : lsAt (h ++ [o]) i = some xs := by
  unfold lsAt at e ⊢
  split at e
  · rename_i q
    rw [List.getElem?_append_left (List.getElem?_eq_some_iff.mp q).1, q]
    exact e
  · cases e
theorem lsAt_last {h : Hp} {xs : List D} : lsAt (h ++ [.list xs]) h.length = some xs := by
  unfold lsAt; rw [List.getElem?_append_right (Nat.le_refl _)]; simp
theorem lsAt_lt {h : Hp} {i : Nat} {xs : List D} (e : lsAt h i = some xs) : i < h.length := by
  unfold lsAt at e
  split at e
  · rename_i q; exact (List.getElem?_eq_some_iff.mp q).1
  · cases e
theorem lsAt_set {h : Hp} {i : Nat} {xs : List D} (hi : i < h.length) : lsAt (h.set i (.list xs)) i = some xs := by
  unfold lsAt; rw [List.getElem?_set_self hi]
theorem lsAt_set_ne {h : Hp} {i j : Nat} {o : O} (hij : i ≠ j) : lsAt (h.set i o) j = lsAt h j := by
  unfold lsAt; rw [List.getElem?_set_ne hij]
theorem stAt_append {h : Hp} {o : O} {i : Nat} {xs : List Int} (e : stAt h i = some xs) : stAt (h ++ [o]) i = some xs := by
  unfold stAt at e ⊢
  split at e
  · rename_i q
    rw [List.getElem?_append_left (List.getElem?_eq_some_iff.mp q).1, q]
    exact e
  · cases e
theorem stAt_last {h : Hp} {xs : List Int} : stAt (h ++ [.set xs]) h.length = some xs := by
  unfold stAt; rw [List.getElem?_append_right (Nat.le_refl _)]; simp
theorem ls_of_st {h : Hp} {i : Nat} {xs : List Int} (e : stAt h i = some xs) : lsAt h i = none := by
  unfold stAt at e
  unfold lsAt
  split at e
  · rename_i q; rw [q]
  · cases e
theorem lsAt_take {h : Hp} {n i : Nat} (hi : i < n) : lsAt (h.take n) i = lsAt h i := by
  unfold lsAt; rw [List.getElem?_take_of_lt hi]
section
variable {Γ : Gam} {n : Nat} {m : Loc} {h : Hp}

/-- what a for over a value asks -/
noncomputable def forV (Γ : Gam) (n : Nat) (x : Str) (b : List Stmt) (v : V) (m : Loc) (h' : Hp) (Q : Fl → Loc → Hp → Prop) : Prop := match v with
      | .range a b' c => a.natAbs ≤ 1000 ∧ b'.natAbs ≤ 1000 ∧ (c = 1 ∨ c = -1) ∧ turns (fun v m h Q => hasL m x ∧ evB Γ n b (lset m x v) h Q) (fun _ => True) h'.length ((rangeList a b' c).map .int) m h' Q
      | .d (.t as) => turns (fun v m h Q => hasL m x ∧ evB Γ n b (lset m x v) h Q) (fun _ => True) h'.length (as.map fun y => .d (.a y)) m h' Q
      | .ref i => (match lsAt h' i with
        | some xs => xs.length ≤ 100000 ∧ turns (fun v m h Q => hasL m x ∧ evB Γ n b (lset m x v) h Q) (fun h2 => lsAt h2 i = some xs) h'.length (xs.map .d) m h' Q
        | .none => False)
      | _ => False
noncomputable def kFor (Γ : Gam) (n : Nat) (x : Str) (b : List Stmt) (m : Loc) (Q : Fl → Loc → Hp → Prop) : V → Hp → Prop := fun v h' => forV Γ n x b v m h' Q
theorem kFor_ap {x : Str} {b : List Stmt} {v : V} {Q : Fl → Loc → Hp → Prop} : kFor Γ n x b m Q v h = forV Γ n x b v m h Q := rfl
/-- behind a turn -/
noncomputable def kTu {A : Type} (k : Nat) (I : A → Loc → Hp → Prop) (r : A) (Q : Fl → Loc → Hp → Prop) : Fl → Loc → Hp → Prop := fun fl m' h2 => match fl with
  | .next => ∃ m'', Weak k m' m'' ∧ I r m'' (h2.take k)
  | .ret v => Q (.ret v) m' h2
theorem kTu_ret {A : Type} {k : Nat} {I : A → Loc → Hp → Prop} {r : A} {v : V} {Q : Fl → Loc → Hp → Prop} : kTu k I r Q (.ret v) m h = Q (.ret v) m h := rfl
theorem kTu_next {A : Type} {k : Nat} {I : A → Loc → Hp → Prop} {r : A} {Q : Fl → Loc → Hp → Prop} : kTu k I r Q .next m h = ∃ m'', Weak k m m'' ∧ I r m'' (h.take k) := rfl
theorem evS_ForCall {x : Str} {f : Expr} {as : List Expr} {ks : List Keyword} {b : List Stmt} {p r q : Pos} {Q : Fl → Loc → Hp → Prop} : evS Γ (n + 1) (.For (.Name x p) (.Call f as ks r) b [] q) m h Q =
    evE Γ n (.Call f as ks r) m h (kFor Γ n x b m Q) := rfl
theorem evS_ForAssign {x y : Str} {ts : List Expr} {e : Expr} {b : List Stmt} {p r q t : Pos} {Q : Fl → Loc → Hp → Prop} : evS Γ (n + 1) (.For (.Name x p) (.Name y r) (.Assign ts e t :: b) [] q) m h Q =
    evE Γ n (.Name y r) m h (kFor Γ n x (.Assign ts e t :: b) m Q) := rfl
theorem evS_ForNot {x y : Str} {e : Expr} {b o u : List Stmt} {p p2 r q t : Pos} {Q : Fl → Loc → Hp → Prop} : evS Γ (n + 1) (.For (.Name x p) (.Name y r) (.If (.UnaryOp .Not e p2) b o t :: u) [] q) m h Q =
    evE Γ n (.Name y r) m h (kFor Γ n x (.If (.UnaryOp .Not e p2) b o t :: u) m Q) := rfl
theorem evS_ForBool {x y : Str} {op : BoolOp} {es : List Expr} {b o : List Stmt} {p p2 r q t : Pos} {Q : Fl → Loc → Hp → Prop} : evS Γ (n + 1) (.For (.Name x p) (.Name y r) [.If (.BoolOp op es p2) b o t] [] q) m h Q =
    evE Γ n (.Name y r) m h (kFor Γ n x [.If (.BoolOp op es p2) b o t] m Q) := rfl
theorem evS_ForCmp {x y z : Str} {ops : List CmpOp} {es : List Expr} {b o : List Stmt} {p p2 p3 r q t : Pos} {Q : Fl → Loc → Hp → Prop} : evS Γ (n + 1) (.For (.Name x p) (.Name y r) [.If (.Compare (.Name z p3) ops es p2) b o t] [] q) m h Q =
    evE Γ n (.Name y r) m h (kFor Γ n x [.If (.Compare (.Name z p3) ops es p2) b o t] m Q) := rfl
theorem evS_ForAug {x y : Str} {ta e : Expr} {op : Operator} {b : List Stmt} {p r q t : Pos} {Q : Fl → Loc → Hp → Prop} : evS Γ (n + 1) (.For (.Name x p) (.Name y r) (.AugAssign ta op e t :: b) [] q) m h Q =
    evE Γ n (.Name y r) m h (kFor Γ n x (.AugAssign ta op e t :: b) m Q) := rfl
theorem evS_While {t : Expr} {b : List Stmt} {q : Pos} {Q : Fl → Loc → Hp → Prop} : evS Γ (n + 1) (.While t b [] q) m h Q =
   ∃ (I : Nat → Loc → Hp → Prop) (k : Nat), I k m h ∧ ∀ k m' h', I k m' h' → h.length ≤ h'.length ∧ evT Γ n t m' h' fun c h1 =>
        if c = true then evB Γ n b m' h1 fun fl m2 h2 => (match fl with
          | .next => ∃ k' m3, k' < k ∧ Weak h.length m2 m3 ∧ I k' m3 (h2.take h.length)
          | .ret r => Q (.ret r) m2 h2)
        else Q .next m' h1 := rfl
theorem evS_ForNeg {x y x' y' : Str} {p1 p2 p3 p4 p5 p6 p7 p8 p9 q : Pos} {c : Nat} {Q : Fl → Loc → Hp → Prop} : evS Γ (n + 1) (.For (.Name x p1) (.Name y p2) [.If (.Compare (.UnaryOp .USub (.Name x' p3) p4) [.In] [.Name y' p5] p6) [.Return (some (.Constant (.bool true) c p9)) p7] [] p8] [] q) m h Q =
   (x = x' ∧ y = y' ∧ x ≠ y ∧ hasL m x ∧ (match lget m y with
        | some (.ref i) => (match stAt h i with
          | some ns => ns.length ≤ 1000 ∧ Q (if ns.any (fun l => decide (-l ∈ ns)) then .ret (.bool true) else .next) (lset m x .undef) h
          | .none => False)
        | _ => False)) := rfl

theorem turns_of {A : Type} {step : V → Loc → Hp → (Fl → Loc → Hp → Prop) → Prop} {ok : Hp → Prop} {n₀ : Nat} {Q : Fl → Loc → Hp → Prop} (enc : A → V) (xs : List A) (I : List A → Loc → Hp → Prop) (h0 : I xs m h) (hok : ∀ r m h, I r m h → ok h)
    (hs : ∀ a r m h, I (a :: r) m h → step (enc a) m h fun fl m' h' => match fl with
      | .next => ∃ m'', Weak n₀ m' m'' ∧ I r m'' (h'.take n₀)
      | .ret v => Q (.ret v) m' h')
    (he : ∀ m h, I [] m h → Q .next m h) : turns step ok n₀ (xs.map enc) m h Q := by
  refine ⟨fun k m h => I (xs.drop k) m h, h0, fun k m h i => hok _ _ _ i, fun k v m h hv i => ?_, fun m h i => he m h ?_⟩
  · rw [List.getElem?_map] at hv
    cases q : xs[k]? with
    | none => rw [q] at hv; cases hv
    | some a =>
      rw [q] at hv
      cases hv
      have := List.getElem?_eq_some_iff.mp q
      obtain ⟨hl, rfl⟩ := this
      rw [← List.getElem_cons_drop hl] at i
      exact hs _ _ _ _ i
  · rwa [List.length_map, List.drop_length] at i

/-! the encoders -/
noncomputable def dI (i : Int) : D := .a (.int i)
noncomputable def aIs (c : List Int) : List At := c.map .int
noncomputable def dIs (c : List Int) : List D := c.map dI
noncomputable def dCl (c : List Int) : D := .t (aIs c)
noncomputable def dCls (c : List (List Int)) : List D := c.map dCl

theorem forV_tup {x : Str} {b : List Stmt} {c : List Int} {Q : Fl → Loc → Hp → Prop} (I : List Int → Loc → Hp → Prop) (h0 : I c m h)
    (hs : ∀ a r m h', I (a :: r) m h' → hasL m x ∧ evB Γ n b (lset m x (.int a)) h' (kTu h.length I r Q))
    (he : ∀ m h, I [] m h → Q .next m h) : forV Γ n x b (.d (.t (aIs c))) m h Q := by
  unfold forV
  dsimp only
  rw [aIs, List.map_map]
  exact turns_of _ c I h0 (fun _ _ _ _ => trivial) hs he
theorem forV_range {x : Str} {b : List Stmt} {lo hi : Int} {Q : Fl → Loc → Hp → Prop} (hlo : lo.natAbs ≤ 1000) (hhi : hi.natAbs ≤ 1000) (I : List Int → Loc → Hp → Prop) (h0 : I (rangeList lo hi 1) m h)
    (hs : ∀ a r m h', I (a :: r) m h' → hasL m x ∧ evB Γ n b (lset m x (.int a)) h' (kTu h.length I r Q))
    (he : ∀ m h, I [] m h → Q .next m h) : forV Γ n x b (.range lo hi 1) m h Q :=
  ⟨hlo, hhi, .inl rfl, turns_of _ _ I h0 (fun _ _ _ _ => trivial) hs he⟩
theorem forV_ints {x : Str} {b : List Stmt} {i : Nat} {c : List Int} {Q : Fl → Loc → Hp → Prop} (hi : lsAt h i = some (dIs c)) (hl : c.length ≤ 100000) (I : List Int → Loc → Hp → Prop) (h0 : I c m h) (hok : ∀ r m h, I r m h → lsAt h i = some (dIs c))
    (hs : ∀ a r m h', I (a :: r) m h' → hasL m x ∧ evB Γ n b (lset m x (.int a)) h' (kTu h.length I r Q))
    (he : ∀ m h, I [] m h → Q .next m h) : forV Γ n x b (.ref i) m h Q := by
  show (match lsAt h i with | some xs => _ | .none => _)
  rw [hi]
  refine ⟨by rw [dIs, List.length_map]; exact hl, ?_⟩
  rw [dIs, List.map_map]
  exact turns_of _ c I h0 hok hs he
theorem forV_cls {x : Str} {b : List Stmt} {i : Nat} {c : List (List Int)} {Q : Fl → Loc → Hp → Prop} (hi : lsAt h i = some (dCls c)) (hl : c.length ≤ 100000) (I : List (List Int) → Loc → Hp → Prop) (h0 : I c m h) (hok : ∀ r m h, I r m h → lsAt h i = some (dCls c))
    (hs : ∀ a r m h', I (a :: r) m h' → hasL m x ∧ evB Γ n b (lset m x (.d (.t (aIs a)))) h' (kTu h.length I r Q))
    (he : ∀ m h, I [] m h → Q .next m h) : forV Γ n x b (.ref i) m h Q := by
  show (match lsAt h i with | some xs => _ | .none => _)
  rw [hi]
  refine ⟨by rw [dCls, List.length_map]; exact hl, ?_⟩
  rw [dCls, List.map_map]
  exact turns_of _ c I h0 hok hs he

theorem weak_nil {k : Nat} : Weak k [] [] := fun x v e => by simp [lget] at e
theorem weak_cons {k : Nat} {x : Str} {u v : V} {m m' : Loc} (hv : v = .undef ∨ v = u ∧ v.below k) (hm : Weak k m m') : Weak k ((x, u) :: m) ((x, v) :: m') := by
  intro y v' e
  unfold lget at e ⊢
  by_cases q : y = x
  · rw [if_pos q] at e ⊢
    cases e
    exact ⟨u, rfl, hv⟩
  · rw [if_neg q] at e ⊢
    exact hm y v' e
theorem weak_keep {k : Nat} {x : Str} {u : V} {m m' : Loc} (hv : u.below k) (hm : Weak k m m') : Weak k ((x, u) :: m) ((x, u) :: m') := weak_cons (.inr ⟨rfl, hv⟩) hm
theorem weak_drop {k : Nat} {x : Str} {u : V} {m m' : Loc} (hm : Weak k m m') : Weak k ((x, u) :: m) ((x, .undef) :: m') := weak_cons (.inl rfl) hm
theorem users_top : (users.all fun u => !builtins.contains u) = true := by decide +kernel
theorem callU {f : String} {vs : List V} {Q : V → Hp → Prop} (hf : (users.contains (Str.ofString f)) = true) : callF Γ (Str.ofString f) vs h Q = ∃ r h', Γ (Str.ofString f) vs h r h' ∧ Q r h' := by
  apply callF_user
  intro hb
  have := List.all_eq_true.mp users_top _ (List.contains_iff_mem.mp hf)
  rw [List.contains_iff_mem.mpr hb] at this
  cases this
theorem cmp_eq {x y : Int} {Q : Bool → Prop} : cmpop .Eq (.int x) (.int y) h Q = Q (x == y) := rfl
theorem cmp_ne {x y : Int} {Q : Bool → Prop} : cmpop .NotEq (.int x) (.int y) h Q = Q (x != y) := rfl
theorem cmp_lt {x y : Int} {Q : Bool → Prop} : cmpop .Lt (.int x) (.int y) h Q = Q (decide (x < y)) := rfl
theorem cmp_gt {x y : Int} {Q : Bool → Prop} : cmpop .Gt (.int x) (.int y) h Q = Q (decide (y < x)) := rfl
theorem cmp_ge {x y : Int} {Q : Bool → Prop} : cmpop .GtE (.int x) (.int y) h Q = Q (decide (y ≤ x)) := rfl
theorem cmp_eqB {x y : Bool} {Q : Bool → Prop} : cmpop .Eq (.bool x) (.bool y) h Q = Q (x == y) := rfl
theorem cmp_neB {x y : Bool} {Q : Bool → Prop} : cmpop .NotEq (.bool x) (.bool y) h Q = Q (x != y) := rfl
theorem cmp_eqS {x y : Str} {Q : Bool → Prop} : cmpop .Eq (.str x) (.str y) h Q = Q (x == y) := rfl
theorem bin_add {x y : Int} {Q : V → Hp → Prop} : binop .Add (.int x) (.int y) h Q = Q (.int (x + y)) h := rfl
theorem bin_sub {x y : Int} {Q : V → Hp → Prop} : binop .Sub (.int x) (.int y) h Q = Q (.int (x - y)) h := rfl
theorem get_ints {i : Nat} {xs : List Int} {k : Int} {Q : V → Prop} (hi : lsAt h i = some (dIs xs)) (h0 : 0 ≤ k) (hk : k < 1000000) (hl : k.toNat < xs.length) (q : Q (.int (xs.getD k.toNat 0))) : getIt (.ref i) (.int k) h Q := by
  show (match lsAt h i with | some xs => _ | .none => _)
  rw [hi]
  refine ⟨h0, hk, ?_⟩
  rw [List.getD_eq_getElem?_getD, List.getElem?_eq_getElem hl] at q
  rw [dIs, List.getElem?_map, List.getElem?_eq_getElem hl]
  exact q
theorem get_tup {xs : List Int} {k : Int} {Q : V → Prop} (h0 : 0 ≤ k) (hk : k < 1000000) (hl : k.toNat < xs.length) (q : Q (.int (xs.getD k.toNat 0))) : getIt (.d (.t (aIs xs))) (.int k) h Q := by
  refine ⟨h0, hk, ?_⟩
  rw [List.getD_eq_getElem?_getD, List.getElem?_eq_getElem hl] at q
  rw [aIs, List.getElem?_map, List.getElem?_eq_getElem hl]
  exact q
theorem set_ints {i : Nat} {xs : List Int} {k v : Int} {Q : Hp → Prop} (hi : lsAt h i = some (dIs xs)) (h0 : 0 ≤ k) (hk : k < 1000000) (hl : k.toNat < xs.length) (q : Q (h.set i (.list (dIs (xs.set k.toNat v))))) : setIt (.ref i) (.int k) (.int v) h Q := by
  show (match lsAt h i with | some xs => _ | .none => _)
  rw [hi]
  refine ⟨h0, hk, by rw [dIs, List.length_map]; lia, ?_⟩
  rw [show (dIs xs).set k.toNat (D.a (At.int v)) = dIs (xs.set k.toNat v) from (List.map_set (f := dI)).symm]
  exact q
theorem all_or_nil {f : Expr → Hp → (Bool → Hp → Prop) → Prop} {Q : Bool → Hp → Prop} : Mine.evAll f .Or [] h Q = Q false h := rfl
theorem all_and_nil {f : Expr → Hp → (Bool → Hp → Prop) → Prop} {Q : Bool → Hp → Prop} : Mine.evAll f .And [] h Q = Q true h := rfl
noncomputable def kOr (f : Expr → Hp → (Bool → Hp → Prop) → Prop) (es : List Expr) (Q : Bool → Hp → Prop) : Bool → Hp → Prop := fun b h' => if b = true then Q true h' else Mine.evAll f .Or es h' Q
noncomputable def kAnd (f : Expr → Hp → (Bool → Hp → Prop) → Prop) (es : List Expr) (Q : Bool → Hp → Prop) : Bool → Hp → Prop := fun b h' => if b = true then Mine.evAll f .And es h' Q else Q false h'
theorem kOr_ap {f : Expr → Hp → (Bool → Hp → Prop) → Prop} {es : List Expr} {Q : Bool → Hp → Prop} {b : Bool} : kOr f es Q b h = if b = true then Q true h else Mine.evAll f .Or es h Q := rfl
theorem kAnd_ap {f : Expr → Hp → (Bool → Hp → Prop) → Prop} {es : List Expr} {Q : Bool → Hp → Prop} {b : Bool} : kAnd f es Q b h = if b = true then Mine.evAll f .And es h Q else Q false h := rfl
theorem all_or {f : Expr → Hp → (Bool → Hp → Prop) → Prop} {e : Expr} {es : List Expr} {Q : Bool → Hp → Prop} : Mine.evAll f .Or (e :: es) h Q = f e h (kOr f es Q) := by
  show (f e h fun b h' => if (BoolOp.Or == BoolOp.And) = b then _ else _) = _
  congr 1; funext b h'; cases b <;> rfl
theorem all_and {f : Expr → Hp → (Bool → Hp → Prop) → Prop} {e : Expr} {es : List Expr} {Q : Bool → Hp → Prop} : Mine.evAll f .And (e :: es) h Q = f e h (kAnd f es Q) := by
  show (f e h fun b h' => if (BoolOp.And == BoolOp.And) = b then _ else _) = _
  congr 1; funext b h'; cases b <;> rfl
theorem bo_one {op : BoolOp} {f : Expr → Hp → (V → Hp → Prop) → Prop} {e : Expr} {Q : V → Hp → Prop} : evBo f op [e] h Q = f e h Q := rfl
noncomputable def onB (v : V) (Q : Bool → Prop) : Prop := match v with | .d (.a (.bool b)) => Q b | _ => False
noncomputable def kBoO (f : Expr → Hp → (V → Hp → Prop) → Prop) (es : List Expr) (Q : V → Hp → Prop) : V → Hp → Prop := fun v h' => onB v fun b => if b = true then Q (.bool true) h' else evBo f .Or es h' Q
noncomputable def kBoA (f : Expr → Hp → (V → Hp → Prop) → Prop) (es : List Expr) (Q : V → Hp → Prop) : V → Hp → Prop := fun v h' => onB v fun b => if b = true then evBo f .And es h' Q else Q (.bool false) h'
theorem kBoO_ap {f : Expr → Hp → (V → Hp → Prop) → Prop} {es : List Expr} {Q : V → Hp → Prop} {b : Bool} : kBoO f es Q (.d (.a (.bool b))) h = if b = true then Q (.bool true) h else evBo f .Or es h Q := rfl
theorem kBoA_ap {f : Expr → Hp → (V → Hp → Prop) → Prop} {es : List Expr} {Q : V → Hp → Prop} {b : Bool} : kBoA f es Q (.d (.a (.bool b))) h = if b = true then evBo f .And es h Q else Q (.bool false) h := rfl
theorem bo_or {f : Expr → Hp → (V → Hp → Prop) → Prop} {e e2 : Expr} {es : List Expr} {Q : V → Hp → Prop} : evBo f .Or (e :: e2 :: es) h Q = f e h (kBoO f (e2 :: es) Q) := by
  show (f e h fun v h' => match v with | .d (.a (.bool b)) => if (BoolOp.Or == BoolOp.And) = b then _ else _ | _ => _) = _
  congr 1; funext v h'; unfold kBoO onB; split <;> first | rfl | (rename_i b; cases b <;> rfl)
theorem bo_and {f : Expr → Hp → (V → Hp → Prop) → Prop} {e e2 : Expr} {es : List Expr} {Q : V → Hp → Prop} : evBo f .And (e :: e2 :: es) h Q = f e h (kBoA f (e2 :: es) Q) := by
  show (f e h fun v h' => match v with | .d (.a (.bool b)) => if (BoolOp.And == BoolOp.And) = b then _ else _ | _ => _) = _
  congr 1; funext v h'; unfold kBoA onB; split <;> first | rfl | (rename_i b; cases b <;> rfl)
noncomputable def kPt (Q : Option Int → Hp → Prop) : V → Hp → Prop := fun v h' => match v with
  | .d (.a (.int k)) => Q (some k) h'
  | _ => False
theorem kPt_ap {k : Int} {Q : Option Int → Hp → Prop} : kPt Q (.d (.a (.int k))) h = Q (some k) h := rfl
theorem evPart_none {f : Expr → Hp → (V → Hp → Prop) → Prop} {Q : Option Int → Hp → Prop} : evPart f none h Q = Q none h := rfl
theorem evPart_some {f : Expr → Hp → (V → Hp → Prop) → Prop} {e : Expr} {Q : Option Int → Hp → Prop} : evPart f (some e) h Q = f e h (kPt Q) := rfl
theorem retQ {h' h2 : Hp} {r v : V} (q : Fl.ret v = Fl.ret r ∧ r.below h'.length ∧ h.length ≤ h'.length ∧ h' = h2.take h'.length) : RetQ h h' r (.ret v) m h2 := q
theorem cf_lenT {xs : List At} {Q : V → Hp → Prop} : callF Γ (Str.ofString "len") [.d (.t xs)] h Q = (xs.length ≤ 1000 ∧ Q (.int xs.length) h) := (rfl)
theorem cf_lenR {i : Nat} {xs : List D} {Q : V → Hp → Prop} (hi : lsAt h i = some xs) (hl : xs.length ≤ 100000) (q : Q (.int xs.length) h) : callF Γ (Str.ofString "len") [.ref i] h Q := by
  show (match lsAt h i with | some xs => _ | .none => _)
  rw [hi]
  exact ⟨hl, q⟩
theorem cf_lenS {i : Nat} {xs : List Int} {Q : V → Hp → Prop} (hi : stAt h i = some xs) (hl : xs.length ≤ 1000) (q : Q (.int xs.length) h) : callF Γ (Str.ofString "len") [.ref i] h Q := by
  show (match lsAt h i with | some xs => _ | .none => (match stAt h i with | some ns => _ | .none => _))
  rw [ls_of_st hi, hi]
  exact ⟨hl, q⟩
theorem cf_range1 {b : Int} {Q : V → Hp → Prop} : callF Γ (Str.ofString "range") [.d (.a (.int b))] h Q = Q (.range 0 b 1) h := (rfl)
theorem cf_range2 {a b : Int} {Q : V → Hp → Prop} : callF Γ (Str.ofString "range") [.d (.a (.int a)), .d (.a (.int b))] h Q = Q (.range a b 1) h := (rfl)
theorem cf_range3 {a b c : Int} {Q : V → Hp → Prop} : callF Γ (Str.ofString "range") [.d (.a (.int a)), .d (.a (.int b)), .d (.a (.int c))] h Q = (c = -1 ∧ Q (.range a b c) h) := (rfl)
theorem cf_list {i : Nat} {xs : List D} {Q : V → Hp → Prop} (hi : lsAt h i = some xs) (hl : xs.length ≤ 100000) (q : Q (.ref h.length) (h ++ [.list xs])) : callF Γ (Str.ofString "list") [.ref i] h Q := by
  show (match lsAt h i with | some xs => _ | .none => _)
  rw [hi]
  exact ⟨hl, q⟩
theorem cf_listR {a b : Int} {Q : V → Hp → Prop} (ha : a.natAbs ≤ 1000) (hb : b.natAbs ≤ 1000) (q : Q (.ref h.length) (h ++ [.list (dIs (rangeList a b 1))])) : callF Γ (Str.ofString "list") [.range a b 1] h Q := by
  show _ ∧ _ ∧ _ ∧ _
  exact ⟨ha, hb, rfl, q⟩
theorem dAtoms_dIs : ∀ {c : List Int}, dAtoms (dIs c) = some (aIs c)
  | [] => rfl
  | x :: c => by
    show (dAtoms (dIs c)).map _ = _
    rw [dAtoms_dIs]; rfl
theorem dInts_dIs : ∀ {c : List Int}, dInts (dIs c) = some c
  | [] => rfl
  | x :: c => by
    show (dInts (dIs c)).map _ = _
    rw [dInts_dIs]; rfl
theorem atInts_aIs : ∀ {c : List Int}, atInts (aIs c) = some c
  | [] => rfl
  | x :: c => by
    show (atInts (aIs c)).map _ = _
    rw [atInts_aIs]; rfl
theorem aIs_len {c : List Int} : (aIs c).length = c.length := List.length_map ..
theorem dIs_len {c : List Int} : (dIs c).length = c.length := List.length_map ..
theorem dCls_len {c : List (List Int)} : (dCls c).length = c.length := List.length_map ..
theorem cf_tuple {i : Nat} {c : List Int} {Q : V → Hp → Prop} (hi : lsAt h i = some (dIs c)) (hl : c.length ≤ 1000) (q : Q (.d (.t (aIs c))) h) : callF Γ (Str.ofString "tuple") [.ref i] h Q := by
  show (match lsAt h i with | some xs => _ | .none => _)
  rw [hi]
  show _ ∧ (match dAtoms _ with | some as => _ | .none => _)
  rw [dAtoms_dIs]
  exact ⟨by rw [dIs_len]; exact hl, q⟩
theorem cf_set0 {Q : V → Hp → Prop} : callF Γ (Str.ofString "set") [] h Q = Q (.ref h.length) (h ++ [.set []]) := (rfl)
theorem cf_set {i : Nat} {c : List Int} {Q : V → Hp → Prop} (hi : lsAt h i = some (dIs c)) (hl : c.length ≤ 14) (q : Q (.ref h.length) (h ++ [.set (lDed c)])) : callF Γ (Str.ofString "set") [.ref i] h Q := by
  show (match lsAt h i with | some xs => _ | .none => _)
  rw [hi]
  show _ ∧ (match dInts _ with | some as => _ | .none => _)
  rw [dInts_dIs]
  exact ⟨by rw [dIs_len]; exact hl, q⟩
theorem cf_isB {b : Bool} {Q : V → Hp → Prop} : callF Γ (Str.ofString "isinstance") [.d (.a (.bool b)), .ty "bool"] h Q = Q (.bool true) h := by
  show (("bool" : String) = "bool" ∧ Q (.bool true) h) = _
  rw [eq_self, true_and]
theorem unop_neg {i : Int} {Q : V → Prop} : unop .USub (.d (.a (.int i))) Q = Q (.int (-i)) := rfl
theorem atoms_nil : atoms [] = some [] := rfl
theorem atoms_cons {x : At} {r : List V} : atoms (.d (.a x) :: r) = (atoms r).map (x :: ·) := rfl
theorem datas_nil : datas [] = some [] := rfl
theorem datas_cons {x : D} {r : List V} : datas (.d x :: r) = (datas r).map (x :: ·) := rfl
theorem evE_int {i : Int} {k : Nat} {p : Pos} {Q : V → Hp → Prop} : evE Γ (n + 1) (.Constant (.int i) k p) m h Q = Q (.int i) h := rfl
theorem evE_bool {i : Bool} {k : Nat} {p : Pos} {Q : V → Hp → Prop} : evE Γ (n + 1) (.Constant (.bool i) k p) m h Q = Q (.bool i) h := rfl
theorem evE_str {i : Str} {k : Nat} {p : Pos} {Q : V → Hp → Prop} : evE Γ (n + 1) (.Constant (.str i) k p) m h Q = Q (.str i) h := rfl
theorem tyOf_bool : tyOf (Str.ofString "bool") = some "bool" := rfl
theorem m_append {i : Nat} {xs : List D} {x : D} {Q : V → Hp → Prop} (hi : lsAt h i = some xs) (hl : xs.length ≤ 100000) (q : Q .none (h.set i (.list (xs ++ [x])))) : meth (Str.ofString "append") (.ref i) [.d x] h Q := by
  show (match lsAt h i with | some xs => _ | .none => _)
  rw [hi]
  exact ⟨hl, q⟩
theorem mo_append {i : Nat} {xs : List D} (hi : lsAt h i = some xs) : methOk (Str.ofString "append") (.ref i) h := by
  show (lsAt h i).isSome = true
  rw [hi]; rfl
theorem m_pop {i : Nat} {xs : List D} {k : Int} {x : D} {Q : V → Hp → Prop} (hi : lsAt h i = some xs) (hl : xs.length ≤ 100000) (h0 : 0 ≤ k) (h1 : k < 1000000) (hx : xs[k.toNat]? = some x) (q : Q (.d x) (h.set i (.list (xs.eraseIdx k.toNat)))) : meth (Str.ofString "pop") (.ref i) [.d (.a (.int k))] h Q := by
  show (match lsAt h i with | some xs => _ | .none => _)
  rw [hi]
  show _ ∧ _ ∧ _ ∧ (match xs[k.toNat]? with | some x => _ | .none => _)
  rw [hx]
  exact ⟨hl, h0, h1, q⟩
theorem mo_pop {i : Nat} {xs : List D} (hi : lsAt h i = some xs) : methOk (Str.ofString "pop") (.ref i) h := by
  show (lsAt h i).isSome = true
  rw [hi]; rfl
theorem m_add {i : Nat} {ns : List Int} {k : Int} {Q : V → Hp → Prop} (hi : stAt h i = some ns) (hl : ns.length ≤ 13) (q : Q .none (h.set i (.set (lIns ns k)))) : meth (Str.ofString "add") (.ref i) [.d (.a (.int k))] h Q := by
  show (match stAt h i with | some xs => _ | .none => _)
  rw [hi]
  exact ⟨hl, q⟩
theorem mo_add {i : Nat} {ns : List Int} (hi : stAt h i = some ns) : methOk (Str.ofString "add") (.ref i) h := by
  show (stAt h i).isSome = true
  rw [hi]; rfl
theorem get_cls {i : Nat} {xs : List (List Int)} {k : Int} {Q : V → Prop} (hi : lsAt h i = some (dCls xs)) (h0 : 0 ≤ k) (hk : k < 1000000) (hl : k.toNat < xs.length) (q : Q (.d (.t (aIs (xs.getD k.toNat []))))) : getIt (.ref i) (.int k) h Q := by
  show (match lsAt h i with | some xs => _ | .none => _)
  rw [hi]
  refine ⟨h0, hk, ?_⟩
  rw [List.getD_eq_getElem?_getD, List.getElem?_eq_getElem hl] at q
  rw [dCls, List.getElem?_map, List.getElem?_eq_getElem hl]
  exact q
theorem set_cls {i : Nat} {xs : List (List Int)} {k : Int} {v : List Int} {Q : Hp → Prop} (hi : lsAt h i = some (dCls xs)) (h0 : 0 ≤ k) (hk : k < 1000000) (hl : k.toNat < xs.length) (q : Q (h.set i (.list (dCls (xs.set k.toNat v))))) : setIt (.ref i) (.int k) (.d (.t (aIs v))) h Q := by
  show (match lsAt h i with | some xs => _ | .none => _)
  rw [hi]
  refine ⟨h0, hk, by rw [dCls, List.length_map]; lia, ?_⟩
  rw [show (dCls xs).set k.toNat (D.t (aIs v)) = dCls (xs.set k.toNat v) from (List.map_set (f := dCl)).symm]
  exact q
theorem bin_mul {x y : Int} {Q : V → Hp → Prop} : binop .Mult (.int x) (.int y) h Q = (smallI x ∧ smallI y ∧ Q (.int (x * y)) h) := rfl
theorem bin_mod {x y : Int} {Q : V → Hp → Prop} : binop .Mod (.int x) (.int y) h Q = (y ≠ 0 ∧ Q (.int (x.fmod y)) h) := rfl
theorem bin_div {x y : Int} {Q : V → Hp → Prop} : binop .FloorDiv (.int x) (.int y) h Q = (y ≠ 0 ∧ y.natAbs < 1073741824 ∧ Q (.int (x.fdiv y)) h) := rfl
theorem bin_pow {x y : Int} {Q : V → Hp → Prop} : binop .Pow (.int x) (.int y) h Q = (0 ≤ y ∧ y ≤ 100 ∧ x.natAbs ≤ 100 ∧ Q (.int (x ^ y.toNat)) h) := rfl
theorem bin_shl {x y : Int} {Q : V → Hp → Prop} : binop .LShift (.int x) (.int y) h Q = (0 ≤ y ∧ y ≤ 1000 ∧ x.natAbs < 2 ^ 64 ∧ Q (.int (x * 2 ^ y.toNat)) h) := rfl
theorem bin_shr {x y : Int} {Q : V → Hp → Prop} : binop .RShift (.int x) (.int y) h Q = (0 ≤ y ∧ Q (.int (x.fdiv (2 ^ y.toNat))) h) := rfl
theorem bin_and {x y : Int} {Q : V → Hp → Prop} : binop .BitAnd (.int x) (.int y) h Q = Q (.int (Builtin.bitAnd x y)) h := rfl
theorem bin_xor {x y : Int} {Q : V → Hp → Prop} : binop .BitXor (.int x) (.int y) h Q = Q (.int (Builtin.bitXor x y)) h := rfl
theorem bin_tup {x y : List At} {Q : V → Hp → Prop} : binop .Add (.d (.t x)) (.d (.t y)) h Q = (x.length + y.length ≤ 1000 ∧ Q (.tup (x ++ y)) h) := rfl
theorem in_add {x y : Int} {Q : V → Hp → Prop} : inop .Add (.int x) (.int y) h Q = Q (.int (x + y)) h := rfl
theorem in_and {x y : Int} {Q : V → Hp → Prop} : inop .BitAnd (.int x) (.int y) h Q = Q (.int (Builtin.bitAnd x y)) h := rfl
theorem in_or {x y : Int} {Q : V → Hp → Prop} : inop .BitOr (.int x) (.int y) h Q = Q (.int (Builtin.bitOr x y)) h := rfl
theorem get3_0 {i : Nat} {a b c : Int} {Q : V → Prop} (hi : lsAt h i = some (dIs [a, b, c])) (q : Q (.int a)) : getIt (.ref i) (.int 0) h Q := get_ints hi (by decide) (by decide) (Nat.zero_lt_succ _) q
theorem get3_1 {i : Nat} {a b c : Int} {Q : V → Prop} (hi : lsAt h i = some (dIs [a, b, c])) (q : Q (.int b)) : getIt (.ref i) (.int 1) h Q := get_ints hi (by decide) (by decide) (show 1 < 3 by decide) q
theorem get3_2 {i : Nat} {a b c : Int} {Q : V → Prop} (hi : lsAt h i = some (dIs [a, b, c])) (q : Q (.int c)) : getIt (.ref i) (.int 2) h Q := get_ints hi (by decide) (by decide) (show 2 < 3 by decide) q
theorem set3_0 {i : Nat} {a b c x : Int} {Q : Hp → Prop} (hi : lsAt h i = some (dIs [a, b, c])) (q : Q (h.set i (.list (dIs [x, b, c])))) : setIt (.ref i) (.int 0) (.int x) h Q := set_ints hi (by decide) (by decide) (Nat.zero_lt_succ _) q
theorem set3_1 {i : Nat} {a b c x : Int} {Q : Hp → Prop} (hi : lsAt h i = some (dIs [a, b, c])) (q : Q (h.set i (.list (dIs [a, x, c])))) : setIt (.ref i) (.int 1) (.int x) h Q := set_ints hi (by decide) (by decide) (show 1 < 3 by decide) q
theorem set3_2 {i : Nat} {a b c x : Int} {Q : Hp → Prop} (hi : lsAt h i = some (dIs [a, b, c])) (q : Q (h.set i (.list (dIs [a, b, x])))) : setIt (.ref i) (.int 2) (.int x) h Q := set_ints hi (by decide) (by decide) (show 2 < 3 by decide) q
end
end Mine

/-! P2 -/
namespace Mine
open PySem
noncomputable def E2a (v0 v1 v2 v3 v4 v5 : V) : Loc := [("values", v0), ("clause", v1), ("forced", v2), ("free", v3), ("literal", v4), ("value", v5)]
section
variable {v0 v1 v2 v3 v4 v5 w : V}
theorem E2a_g0 : lget (E2a v0 v1 v2 v3 v4 v5) (Str.ofString "values") = some v0 := (rfl)
theorem E2a_g1 : lget (E2a v0 v1 v2 v3 v4 v5) (Str.ofString "clause") = some v1 := (rfl)
theorem E2a_g2 : lget (E2a v0 v1 v2 v3 v4 v5) (Str.ofString "forced") = some v2 := (rfl)
theorem E2a_s2 : lset (E2a v0 v1 v2 v3 v4 v5) (Str.ofString "forced") w = E2a v0 v1 w v3 v4 v5 := (rfl)
theorem E2a_g3 : lget (E2a v0 v1 v2 v3 v4 v5) (Str.ofString "free") = some v3 := (rfl)
theorem E2a_s3 : lset (E2a v0 v1 v2 v3 v4 v5) (Str.ofString "free") w = E2a v0 v1 v2 w v4 v5 := (rfl)
theorem E2a_g4 : lget (E2a v0 v1 v2 v3 v4 v5) (Str.ofString "literal") = some v4 := (rfl)
theorem E2a_s4 : lset (E2a v0 v1 v2 v3 v4 v5) (Str.ofString "literal") w = E2a v0 v1 v2 v3 w v5 := (rfl)
theorem E2a_g5 : lget (E2a v0 v1 v2 v3 v4 v5) (Str.ofString "value") = some v5 := (rfl)
theorem E2a_s5 : lset (E2a v0 v1 v2 v3 v4 v5) (Str.ofString "value") w = E2a v0 v1 v2 v3 v4 w := (rfl)
end
noncomputable def E2b (v0 v1 v2 : V) : Loc := [("values", v0), ("literal", v1), ("wanted", v2)]
section
variable {v0 v1 v2 w : V}
theorem E2b_g0 : lget (E2b v0 v1 v2) (Str.ofString "values") = some v0 := (rfl)
theorem E2b_g1 : lget (E2b v0 v1 v2) (Str.ofString "literal") = some v1 := (rfl)
theorem E2b_g2 : lget (E2b v0 v1 v2) (Str.ofString "wanted") = some v2 := (rfl)
theorem E2b_s2 : lset (E2b v0 v1 v2) (Str.ofString "wanted") w = E2b v0 v1 w := (rfl)
end
noncomputable def E2c (v0 v1 v2 : V) : Loc := [("count", v0), ("clause", v1), ("literal", v2)]
section
variable {v0 v1 v2 w : V}
theorem E2c_g0 : lget (E2c v0 v1 v2) (Str.ofString "count") = some v0 := (rfl)
theorem E2c_g1 : lget (E2c v0 v1 v2) (Str.ofString "clause") = some v1 := (rfl)
theorem E2c_g2 : lget (E2c v0 v1 v2) (Str.ofString "literal") = some v2 := (rfl)
theorem E2c_s2 : lset (E2c v0 v1 v2) (Str.ofString "literal") w = E2c v0 v1 w := (rfl)
end

/-- clause_state, in plain words -/
noncomputable def csGo (xs : List Int) : List Int → Int → Int → Str × Int
  | [], forced, free => if free = 0 then ("failed", 0) else if free = 1 then ("forced", forced) else ("open", 0)
  | l :: c, forced, free =>
    if xs.getD l.natAbs 0 = 0 then csGo xs c l (if l ≠ forced then free + 1 else free)
    else if decide (0 < xs.getD l.natAbs 0) = decide (0 < l) then ("held", 0) else csGo xs c forced free

theorem csGo_nil {xs : List Int} {forced free : Int} : csGo xs [] forced free = (if free = 0 then (Str.ofString "failed", 0) else if free = 1 then (Str.ofString "forced", forced) else (Str.ofString "open", 0)) := rfl
theorem csGo_cons {xs : List Int} {l : Int} {c : List Int} {forced free : Int} : csGo xs (l :: c) forced free = if xs.getD l.natAbs 0 = 0 then csGo xs c l (if l ≠ forced then free + 1 else free)
    else if decide (0 < xs.getD l.natAbs 0) = decide (0 < l) then ("held", 0) else csGo xs c forced free := rfl
noncomputable def sStr (p : Str × Int) : V := .tup [.str p.1, .int p.2]
inductive SpCS (vs : List V) (h : Hp) (r : V) (h' : Hp) : Prop
  | mk (i : Nat) (xs c : List Int) (e0 : vs = [.ref i, .d (.t (aIs c))]) (e1 : lsAt h i = some (dIs xs)) (e2 : xs.length ≤ 1000) (e3 : (∀ l ∈ c, l.natAbs < xs.length)) (e4 : r = sStr (csGo xs c 0 0)) (e5 : h' = h) : SpCS vs h r h'

inductive I2a (i : Nat) (xs c : List Int) (h' : Hp) (r : List Int) (m : Loc) (h : Hp) : Prop
  | mk (forced free : Int) (l v : V) (e0 : m = (E2a (.ref i) (.d (.t (aIs c))) (.int forced) (.int free) l v)) (e1 : l.below h'.length) (e2 : v.below h'.length) (e3 : h = h') (e4 : csGo xs r forced free = csGo xs c 0 0) (e5 : ∀ l ∈ r, l.natAbs < xs.length) : I2a i xs c h' r m h
theorem fn_cs (Γ : Gam) : FnOk Γ 1 SpCS := by
  rintro vs h r h' ⟨i, xs, c, rfl, hi, hl, hc, rfl, rfl⟩
  refine ⟨rfl, by simp, ?_⟩
  have e : initLoc (localsAt 1) (paramsAt 1) [.ref i, .d (.t (aIs c))] = (E2a (.ref i) (.d (.t (aIs c))) .undef .undef .undef .undef) := by rfl
  rw [e]
  conv in bodyAt 1 => whnf
  ((try simp only [evB_cons, evS_Assign, evE_int, kAs_ap, hasL, E2a_g2, Option.isSome_some, E2a_s2, kB_next, E2a_g3, E2a_s3, evS_ForAssign, evE_Name, E2a_g1, kNm_some, ne_eq, reduceCtorEq, not_false_eq_true, kFor_ap, true_and]); try (refine retQ ?_; try simp only [List.take_length, and_true, true_and]))
  refine forV_tup (I2a i xs c h') ⟨0, 0, .undef, .undef, rfl, trivial, trivial, rfl, rfl, hc⟩ ?_ ?_
  · rintro a r m _ ⟨forced, free, l, v, rfl, -, -, rfl, hg, hr⟩
    have ha : a.natAbs < xs.length := hr a (.head _)
    have hr' : ∀ l ∈ r, l.natAbs < xs.length := fun l hl => hr l (.tail _ hl)
    ((try simp only [hasL, E2a_g4, Option.isSome_some, E2a_s4, evB_cons, evS_Assign, evE_SubCall, evE_Name, E2a_g0, kNm_some, ne_eq, reduceCtorEq, not_false_eq_true, kIx1_ap, evE_Call, evEs_cons, fE_ap, kE1_ap, evEs_nil, kE2_ap, kCa_ap, cf_abs, kIx2_ap, true_and]); try (refine retQ ?_; try simp only [List.take_length, and_true, true_and]))
    refine get_ints hi (by lia) (by lia) (by lia) ?_
    rw [Int.toNat_natCast]
    rw [csGo_cons] at hg
    have hb := lsAt_lt hi
    by_cases h0 : xs.getD a.natAbs 0 = 0
    · rw [if_pos h0] at hg
      ((try simp only [h0, kV_ap, kAs_ap, hasL, E2a_g5, Option.isSome_some, E2a_s5, kB_next, evB_cons, evS_If, evT_Compare, evE_Name, kNm_some, ne_eq, reduceCtorEq, not_false_eq_true, kTC1_ap, evE_int, kTC2_ap, cmp_eq, beq_self_eq_true, kTC3_ap, kIf_ap, E2a_g4, E2a_g2, cmp_ne, evS_Assign, evE_Bin, E2a_g3, kBi1_ap, kBi2_ap, bin_add, E2a_s3, evB_nil, E2a_s2, kTu_next, List.take_length, true_and, evE_Compare, kC1_ap, kC2_ap, cmp_gt, kC3_ap, cmp_eqB, evS_Return, evE_Tuple, evEs_cons, fE_ap, evE_str, kE1_ap, evEs_nil, kE2_ap, kTup_ap, atoms_cons, atoms_nil, Option.map_some, List.length_cons, List.length_nil, Nat.reduceAdd, Nat.reduceLeDiff, kR_ap, kB_ret, kTu_ret, if_true]); try (refine retQ ?_; try simp only [List.take_length, and_true, true_and, h0]))
      by_cases hf : a = forced
      · subst hf
        have : (a != a) = false := by simp
        ((try simp only [this, Bool.false_eq_true, if_false]); try (refine retQ ?_; try simp only [List.take_length, and_true, true_and, this]))
        refine ⟨_, ?_, a, free, .int a, .int 0, rfl, trivial, trivial, rfl, ?_, hr'⟩
        · (repeat' (first | exact weak_nil | exact trivial | assumption | apply weak_drop | apply weak_keep))
        · rw [if_neg (by simp)] at hg; exact hg
      · rw [if_pos hf] at hg
        have : (a != forced) = true := by simpa using hf
        ((try simp only [this, if_true]); try (refine retQ ?_; try simp only [List.take_length, and_true, true_and, this]))
        refine ⟨_, ?_, a, free + 1, .int a, .int 0, rfl, trivial, trivial, rfl, ?_, hr'⟩
        · (repeat' (first | exact weak_nil | exact trivial | assumption | apply weak_drop | apply weak_keep))
        · exact hg
    · rw [if_neg h0] at hg
      have : (xs.getD a.natAbs 0 == 0) = false := by simpa using h0
      ((try simp only [kV_ap, kAs_ap, hasL, E2a_g5, Option.isSome_some, E2a_s5, kB_next, evB_cons, evS_If, evT_Compare, evE_Name, kNm_some, ne_eq, reduceCtorEq, not_false_eq_true, kTC1_ap, evE_int, kTC2_ap, cmp_eq, this, kTC3_ap, kIf_ap, Bool.false_eq_true, E2a_g4, E2a_g2, cmp_ne, evS_Assign, evE_Bin, E2a_g3, kBi1_ap, kBi2_ap, bin_add, E2a_s3, evB_nil, E2a_s2, kTu_next, List.take_length, true_and, evE_Compare, kC1_ap, kC2_ap, cmp_gt, kC3_ap, cmp_eqB, evS_Return, evE_Tuple, evEs_cons, fE_ap, evE_str, kE1_ap, evEs_nil, kE2_ap, kTup_ap, atoms_cons, atoms_nil, Option.map_some, List.length_cons, List.length_nil, Nat.reduceAdd, Nat.reduceLeDiff, kR_ap, kB_ret, kTu_ret, if_false]); try (refine retQ ?_; try simp only [List.take_length, and_true, true_and, this]))
      by_cases h1 : decide (0 < xs.getD a.natAbs 0) = decide (0 < a)
      · rw [if_pos h1] at hg
        rw [if_pos (by simpa using h1)]
        (try (refine retQ ?_; try simp only [List.take_length, and_true, true_and]))
        rw [← hg]
        exact ⟨rfl, trivial, Nat.le_refl _⟩
      · rw [if_neg h1] at hg
        rw [if_neg (by simpa using h1)]
        refine ⟨_, ?_, forced, free, .int a, .int (xs.getD a.natAbs 0), rfl, trivial, trivial, rfl, ?_, hr'⟩
        · (repeat' (first | exact weak_nil | exact trivial | assumption | apply weak_drop | apply weak_keep))
        · exact hg
  · rintro m _ ⟨forced, free, l, v, rfl, -, -, rfl, hg, -⟩
    rw [csGo_nil] at hg
    ((try simp only [kB_next, evB_cons, evS_If, evT_Compare, evE_Name, E2a_g3, kNm_some, ne_eq, reduceCtorEq, not_false_eq_true, kTC1_ap, evE_int, kTC2_ap, cmp_eq, kTC3_ap, kIf_ap, evS_Return, evE_Tuple, evEs_cons, fE_ap, evE_str, kE1_ap, evEs_nil, kE2_ap, kTup_ap, atoms_cons, atoms_nil, Option.map_some, List.length_cons, List.length_nil, Nat.reduceAdd, Nat.reduceLeDiff, kR_ap, kB_ret, true_and, evB_nil, E2a_g2]); try (refine retQ ?_; try simp only [List.take_length, and_true, true_and]))
    by_cases h0 : free = 0
    · rw [if_pos h0] at hg
      ((try simp only [h0, beq_self_eq_true, if_true]); try (refine retQ ?_; try simp only [List.take_length, and_true, true_and, h0]))
      rw [← hg]
      exact ⟨rfl, trivial, Nat.le_refl _⟩
    · rw [if_neg h0] at hg
      have : (free == 0) = false := by simpa using h0
      ((try simp only [this, Bool.false_eq_true, if_false]); try (refine retQ ?_; try simp only [List.take_length, and_true, true_and, this]))
      by_cases h1 : free = 1
      · rw [if_pos h1] at hg
        ((try simp only [h1, beq_self_eq_true, if_true]); try (refine retQ ?_; try simp only [List.take_length, and_true, true_and, h1]))
        rw [← hg]
        exact ⟨rfl, trivial, Nat.le_refl _⟩
      · rw [if_neg h1] at hg
        have : (free == 1) = false := by simpa using h1
        ((try simp only [this, Bool.false_eq_true, if_false]); try (refine retQ ?_; try simp only [List.take_length, and_true, true_and, this]))
        rw [← hg]
        exact ⟨rfl, trivial, Nat.le_refl _⟩

theorem set_same {h : Hp} {i : Nat} {ds : List D} (e : lsAt h i = some ds) : h.set i (.list ds) = h := by
  unfold lsAt at e
  split at e
  · rename_i q
    cases e
    apply List.ext_getElem?
    intro j
    by_cases hj : i = j
    · subst hj
      rw [List.getElem?_set_self (List.getElem?_eq_some_iff.mp q).1, q]
    · rw [List.getElem?_set_ne hj]
  · cases e
/-- put_true, in plain words -/
noncomputable def sgn (l : Int) : Int := if 0 < l then 1 else -1
noncomputable def ptB (xs : List Int) (l : Int) : Bool := decide (xs.getD l.natAbs 0 ≠ -sgn l)
noncomputable def ptX (xs : List Int) (l : Int) : List Int := if ptB xs l = true then xs.set l.natAbs (sgn l) else xs
inductive SpPT (vs : List V) (h : Hp) (r : V) (h' : Hp) : Prop
  | mk (i : Nat) (xs : List Int) (l : Int) (e0 : vs = [.ref i, .int l]) (e1 : lsAt h i = some (dIs xs)) (e2 : xs.length ≤ 1000) (e3 : l.natAbs < xs.length) (e4 : r = .bool (ptB xs l)) (e5 : h' = h.set i (.list (dIs (ptX xs l)))) : SpPT vs h r h'

theorem fn_pt (Γ : Gam) : FnOk Γ 2 SpPT := by
  rintro vs h r h' ⟨i, xs, l, rfl, hi, hx, hl, rfl, rfl⟩
  refine ⟨rfl, by simp, ?_⟩
  have e : initLoc (localsAt 2) (paramsAt 2) [.ref i, .int l] = (E2b (.ref i) (.int l) .undef) := by rfl
  rw [e]
  conv in bodyAt 2 => whnf
  have hb := lsAt_lt hi
  ((try simp only [evB_cons, evS_Assign, evE_IfExp, evT_Compare, evE_Name, E2b_g1, kNm_some, ne_eq, reduceCtorEq, not_false_eq_true, kTC1_ap, evE_int, kTC2_ap, cmp_gt, kTC3_ap, kIfE_ap, kAs_ap, hasL, E2b_g2, Option.isSome_some, E2b_s2, kB_next, evS_If, evE_SubCall, E2b_g0, kIx1_ap, evE_Call, evEs_cons, fE_ap, kE1_ap, evEs_nil, kE2_ap, kCa_ap, cf_abs, kIx2_ap, true_and, evE_Unary, kUn_ap, unop_neg, kV_ap]); try (refine retQ ?_; try simp only [List.take_length, and_true, true_and]))
  by_cases hp : 0 < l
  · rw [if_pos (by simpa using hp)]
    have hs : sgn l = 1 := if_pos hp
    (try (refine retQ ?_; try simp only [List.take_length, and_true, true_and]))
    refine get_ints hi (by lia) (by lia) (by lia) ?_
    rw [Int.toNat_natCast]
    ((try simp only [kV_ap, kTC1_ap, evE_Unary, evE_Name, E2b_g2, kNm_some, ne_eq, reduceCtorEq, not_false_eq_true, kUn_ap, unop_neg, kTC2_ap, cmp_eq, kTC3_ap, kIf_ap, evB_cons, evS_Return, evE_bool, kR_ap, kB_ret, evB_nil, kB_next, evS_AssignSub, kS1_ap, E2b_g0, kS2_ap, evE_Call, evEs_cons, fE_ap, E2b_g1, kE1_ap, evEs_nil, kE2_ap, kCa_ap, cf_abs, kS3_ap, true_and]); try (refine retQ ?_; try simp only [List.take_length, and_true, true_and]))
    by_cases hq : xs.getD l.natAbs 0 = -sgn l
    · have p : ptB xs l = false := by unfold ptB; rw [hq]; simp
      have px : ptX xs l = xs := by unfold ptX; rw [p]; rfl
      rw [hs] at hq
      rw [if_pos (by simpa using hq), p, px, set_same hi]
      exact retQ ⟨rfl, trivial, Nat.le_refl _, by rw [List.take_length]⟩
    · have p : ptB xs l = true := by unfold ptB; simpa using hq
      have px : ptX xs l = xs.set l.natAbs (sgn l) := by unfold ptX; rw [p]; rfl
      rw [hs] at hq
      rw [if_neg (by simpa using hq), p, px]
      refine set_ints hi (by lia) (by lia) (by lia) ?_
      rw [Int.toNat_natCast]
      ((try simp only [kN_ap, kB_next, evB_cons, evS_Return, evE_bool, kR_ap, kB_ret]); try (refine retQ ?_; try simp only [List.take_length, and_true, true_and]))
      rw [hs]
      refine ⟨trivial, by rw [List.length_set]; exact Nat.le_refl _, by rw [List.take_length]⟩
  · rw [if_neg (by simpa using hp)]
    have hs : sgn l = -1 := if_neg hp
    (try (refine retQ ?_; try simp only [List.take_length, and_true, true_and]))
    refine get_ints hi (by lia) (by lia) (by lia) ?_
    rw [Int.toNat_natCast]
    ((try simp only [kV_ap, kTC1_ap, evE_Unary, evE_Name, E2b_g2, kNm_some, ne_eq, reduceCtorEq, not_false_eq_true, kUn_ap, unop_neg, kTC2_ap, cmp_eq, kTC3_ap, kIf_ap, evB_cons, evS_Return, evE_bool, kR_ap, kB_ret, evB_nil, kB_next, evS_AssignSub, kS1_ap, E2b_g0, kS2_ap, evE_Call, evEs_cons, fE_ap, E2b_g1, kE1_ap, evEs_nil, kE2_ap, kCa_ap, cf_abs, kS3_ap, true_and]); try (refine retQ ?_; try simp only [List.take_length, and_true, true_and]))
    by_cases hq : xs.getD l.natAbs 0 = -sgn l
    · have p : ptB xs l = false := by unfold ptB; rw [hq]; simp
      have px : ptX xs l = xs := by unfold ptX; rw [p]; rfl
      rw [hs] at hq
      rw [if_pos (by simpa using hq), p, px, set_same hi]
      exact retQ ⟨rfl, trivial, Nat.le_refl _, by rw [List.take_length]⟩
    · have p : ptB xs l = true := by unfold ptB; simpa using hq
      have px : ptX xs l = xs.set l.natAbs (sgn l) := by unfold ptX; rw [p]; rfl
      rw [hs] at hq
      rw [if_neg (by simpa using hq), p, px]
      refine set_ints hi (by lia) (by lia) (by lia) ?_
      rw [Int.toNat_natCast]
      ((try simp only [kN_ap, kB_next, evB_cons, evS_Return, evE_bool, kR_ap, kB_ret]); try (refine retQ ?_; try simp only [List.take_length, and_true, true_and]))
      rw [hs]
      refine ⟨trivial, by rw [List.length_set]; exact Nat.le_refl _, by rw [List.take_length]⟩

noncomputable def icB (n : Int) (c : List Int) : Bool := c.all fun l => !(l == 0) && !decide (n < (l.natAbs : Int))
inductive SpIC (vs : List V) (h : Hp) (r : V) (h' : Hp) : Prop
  | mk (n : Int) (c : List Int) (e0 : vs = [.int n, .d (.t (aIs c))]) (e1 : r = .bool (icB n c)) (e2 : h' = h) : SpIC vs h r h'

theorem fn_ic (Γ : Gam) : FnOk Γ 4 SpIC := by
  rintro vs h r h' ⟨n, c, rfl, rfl, rfl⟩
  refine ⟨rfl, by simp, ?_⟩
  have e : initLoc (localsAt 4) (paramsAt 4) [.int n, .d (.t (aIs c))] = (E2c (.int n) (.d (.t (aIs c))) .undef) := by rfl
  rw [e]
  conv in bodyAt 4 => whnf
  ((try simp only [evB_cons, evS_ForBool, evE_Name, E2c_g1, kNm_some, ne_eq, reduceCtorEq, not_false_eq_true, kFor_ap, true_and]); try (refine retQ ?_; try simp only [List.take_length, and_true, true_and]))
  refine forV_tup (fun r m h => ∃ l, m = (E2c (.int n) (.d (.t (aIs c))) l) ∧ h = h' ∧ icB n r = icB n c) ⟨.undef, rfl, rfl, rfl⟩ ?_ ?_
  · rintro a r m _ ⟨l, rfl, rfl, hg⟩
    unfold icB at hg
    rw [List.all_cons] at hg
    ((try simp only [hasL, E2c_g2, Option.isSome_some, E2c_s2, evB_cons, evS_If, evT_BoolOp, all_or, fT_ap, evT_Compare, evE_Name, kNm_some, ne_eq, reduceCtorEq, not_false_eq_true, kTC1_ap, evE_int, kTC2_ap, cmp_eq, kTC3_ap, kOr_ap, kIf_ap, evS_Return, evE_bool, kR_ap, kB_ret, kTu_ret, evB_nil, kB_next, kTu_next, List.take_length, true_and, if_true, evE_Call, evEs_cons, fE_ap, kE1_ap, evEs_nil, kE2_ap, kCa_ap, cf_abs, E2c_g0, cmp_gt, all_or_nil, Bool.false_eq_true, if_false]); try (refine retQ ?_; try simp only [List.take_length, and_true, true_and]))
    by_cases h0 : a = 0
    · subst h0
      ((try simp only [beq_self_eq_true, if_true]); try (refine retQ ?_; try simp only [List.take_length, and_true, true_and]))
      refine ⟨?_, trivial, Nat.le_refl _⟩
      unfold icB; rw [← hg]; simp
    · have : (a == 0) = false := by simpa using h0
      rw [this] at hg
      ((try simp only [this, Bool.false_eq_true, if_false]); try (refine retQ ?_; try simp only [List.take_length, and_true, true_and, this]))
      by_cases h1 : n < (a.natAbs : Int)
      · rw [if_pos (by simpa using h1)]
        (try (refine retQ ?_; try simp only [List.take_length, and_true, true_and]))
        refine ⟨?_, trivial, Nat.le_refl _⟩
        unfold icB; rw [← hg]; simp [h1]
      · rw [if_neg (by simpa using h1)]
        refine ⟨_, ?_, .int a, rfl, ?_⟩
        · (repeat' (first | exact weak_nil | exact trivial | assumption | apply weak_drop | apply weak_keep))
        · unfold icB; rw [← hg]; simp [h1]
  · rintro m _ ⟨l, rfl, rfl, hg⟩
    ((try simp only [kB_next, evB_cons, evS_Return, evE_bool, kR_ap, kB_ret]); try (refine retQ ?_; try simp only [List.take_length, and_true, true_and]))
    refine ⟨?_, trivial, Nat.le_refl _⟩
    rw [← hg]; rfl
end Mine

/-! L1 -/
namespace Mine
open PySem

/-- the literals that are forced -/
inductive Der (C : List (List Int)) (L : List Int) : Int → Prop
  | base {l : Int} : l ∈ L → Der C L l
  | unit {c : List Int} {l : Int} : c ∈ C → l ∈ c → (∀ l' ∈ c, l' ≠ l → Der C L (-l')) → Der C L l
noncomputable def Fails (C : List (List Int)) (L : List Int) : Prop := (∃ l, Der C L l ∧ Der C L (-l)) ∨ ∃ c ∈ C, ∀ l ∈ c, Der C L (-l)

/-- a literal of a variable -/
noncomputable def OkL (n : Nat) (l : Int) : Prop := l ≠ 0 ∧ l.natAbs ≤ n

/-- a closed set without opposites does not fail -/
theorem not_fails {C : List (List Int)} {L : List Int} (T : Int → Prop) (hL : ∀ l ∈ L, T l) (hT : ∀ l, T l → ¬ T (-l))
    (hC : ∀ c ∈ C, (∃ l ∈ c, T l) ∨ ∃ l₁ ∈ c, ∃ l₂ ∈ c, l₁ ≠ l₂ ∧ ¬ T (-l₁) ∧ ¬ T (-l₂)) : ¬ Fails C L := by
  have hD : ∀ l, Der C L l → T l := by
    intro l d
    induction d with
    | base h => exact hL _ h
    | @unit c l hc hl _ ih =>
      rcases hC c hc with ⟨l₁, h₁, t⟩ | ⟨l₁, h₁, l₂, h₂, hne, n₁, n₂⟩
      · by_cases e : l₁ = l
        · rwa [← e]
        · exact (hT _ t (ih _ h₁ e)).elim
      · by_cases e : l₁ = l
        · exact (n₂ (ih _ h₂ (fun q => hne (e.trans q.symm)))).elim
        · exact (n₁ (ih _ h₁ e)).elim
  rintro (⟨l, a, b⟩ | ⟨c, hc, h⟩)
  · exact hT _ (hD _ a) (hD _ b)
  · rcases hC c hc with ⟨l₁, h₁, t⟩ | ⟨l₁, h₁, l₂, h₂, hne, n₁, n₂⟩
    · exact hT _ t (hD _ (h _ h₁))
    · exact n₁ (hD _ (h _ h₁))

/-- the values that stand for a set of literals -/
structure Val (n : Nat) (xs : List Int) : Prop where
  len : xs.length = n + 1
  tri : ∀ k, xs.getD k 0 = 0 ∨ xs.getD k 0 = 1 ∨ xs.getD k 0 = -1
noncomputable def Tr (xs : List Int) (l : Int) : Prop := l ≠ 0 ∧ xs.getD l.natAbs 0 = sgn l
noncomputable def Op (xs : List Int) (l : Int) : Prop := xs.getD l.natAbs 0 = 0

theorem sgn_neg {l : Int} (h : l ≠ 0) : sgn (-l) = -sgn l := by
  unfold sgn
  by_cases h1 : 0 < l
  · rw [if_pos h1, if_neg (by lia)]
  · rw [if_neg h1, if_pos (by lia)]; rfl
theorem sgn_or (l : Int) : sgn l = 1 ∨ sgn l = -1 := by unfold sgn; split <;> simp
theorem Tr.cons {xs : List Int} {l : Int} (h : Tr xs l) : ¬ Tr xs (-l) := by
  rintro ⟨_, b⟩
  rw [Int.natAbs_neg, h.2, sgn_neg h.1] at b
  rcases sgn_or l with e | e <;> rw [e] at b <;> revert b <;> decide
theorem Val.cases {n : Nat} {xs : List Int} (V : Val n xs) {l : Int} (h : l ≠ 0) : Tr xs l ∨ Tr xs (-l) ∨ Op xs l := by
  unfold Tr Op
  rw [Int.natAbs_neg, sgn_neg h]
  have h' : -l ≠ 0 := by lia
  rcases V.tri l.natAbs with e | e | e <;> rcases sgn_or l with q | q <;> rw [e, q] <;> simp [h]
theorem Op.not {xs : List Int} {l : Int} (h : Op xs l) : ¬ Tr xs l ∧ ¬ Tr xs (-l) := by
  unfold Op at h
  unfold Tr
  rw [Int.natAbs_neg, h]
  refine ⟨fun q => ?_, fun q => ?_⟩
  · rcases sgn_or l with e | e <;> rw [e] at q <;> revert q <;> simp
  · rcases sgn_or (-l) with e | e <;> rw [e] at q <;> revert q <;> simp

noncomputable def CsR (xs : List Int) (c : List Int) (p : Str × Int) : Prop :=
  (p = (Str.ofString "held", 0) ∧ ∃ l ∈ c, Tr xs l) ∨ (p = (Str.ofString "failed", 0) ∧ ∀ l ∈ c, Tr xs (-l)) ∨
  (∃ f, p = (Str.ofString "forced", f) ∧ f ∈ c ∧ Op xs f ∧ ∀ l ∈ c, l ≠ f → Tr xs (-l)) ∨
  (p = (Str.ofString "open", 0) ∧ ∃ l₁ ∈ c, ∃ l₂ ∈ c, l₁ ≠ l₂ ∧ Op xs l₁ ∧ Op xs l₂)

theorem csGo_spec {n : Nat} {xs : List Int} (V : Val n xs) : ∀ (r p : List Int) (forced free : Int), (∀ l ∈ p ++ r, l ≠ 0) →
    ((free = 0 ∧ forced = 0 ∧ ∀ l ∈ p, Tr xs (-l)) ∨ (free = 1 ∧ forced ∈ p ∧ Op xs forced ∧ ∀ l ∈ p, l ≠ forced → Tr xs (-l)) ∨ (2 ≤ free ∧ ∃ l₁ ∈ p, ∃ l₂ ∈ p, l₁ ≠ l₂ ∧ Op xs l₁ ∧ Op xs l₂)) →
    CsR xs (p ++ r) (csGo xs r forced free) := by
  intro r
  induction r with
  | nil =>
    intro p forced free hz hp
    rw [List.append_nil, csGo_nil]
    rcases hp with ⟨rfl, -, h⟩ | ⟨rfl, h⟩ | ⟨h2, h⟩
    · rw [if_pos rfl]; exact .inr (.inl ⟨rfl, h⟩)
    · rw [if_neg (by decide), if_pos rfl]; exact .inr (.inr (.inl ⟨_, rfl, h⟩))
    · rw [if_neg (by lia), if_neg (by lia)]; exact .inr (.inr (.inr ⟨rfl, h⟩))
  | cons l r ih =>
    intro p forced free hz hp
    have hl : l ≠ 0 := hz l (by simp)
    rw [csGo_cons]
    have app : p ++ l :: r = (p ++ [l]) ++ r := by simp
    by_cases h0 : xs.getD l.natAbs 0 = 0
    · rw [if_pos h0, app]
      refine ih (p ++ [l]) l _ (by rw [← app]; exact hz) ?_
      by_cases hf : l = forced
      · rw [if_neg (by simp [hf])]
        rcases hp with ⟨-, h, -⟩ | ⟨rfl, h1, h2, h3⟩ | ⟨h2, l₁, h₁, l₂, h₂, r⟩
        · exact (hl (hf.trans h)).elim
        · refine .inr (.inl ⟨rfl, by simp, h0, fun k hk hne => ?_⟩)
          rcases List.mem_append.mp hk with hk | hk
          · exact h3 k hk (hf ▸ hne)
          · exact (hne (by simpa using hk)).elim
        · exact .inr (.inr ⟨h2, l₁, by simp [h₁], l₂, by simp [h₂], r⟩)
      · rw [if_pos hf]
        rcases hp with ⟨rfl, rfl, h⟩ | ⟨rfl, h1, h2, h3⟩ | ⟨h2, l₁, h₁, l₂, h₂, r⟩
        · refine .inr (.inl ⟨rfl, by simp, h0, fun k hk hne => ?_⟩)
          rcases List.mem_append.mp hk with hk | hk
          · exact h k hk
          · exact (hne (by simpa using hk)).elim
        · exact .inr (.inr ⟨by decide, l, by simp, forced, by simp [h1], hf, h0, h2⟩)
        · exact .inr (.inr ⟨by lia, l₁, by simp [h₁], l₂, by simp [h₂], r⟩)
    · rw [if_neg h0]
      by_cases h1 : decide (0 < xs.getD l.natAbs 0) = decide (0 < l)
      · rw [if_pos h1]
        refine .inl ⟨rfl, l, by simp, hl, ?_⟩
        rw [decide_eq_decide] at h1
        unfold sgn
        rcases V.tri l.natAbs with e | e | e
        · exact (h0 e).elim
        · rw [e] at h1 ⊢; rw [if_pos (h1.mp (by decide))]
        · rw [e] at h1 ⊢; rw [if_neg (fun q => by have := h1.mpr q; lia)]
      · rw [if_neg h1, app]
        have hn : Tr xs (-l) := by
          rcases V.cases hl with t | t | t
          · refine (h1 ?_).elim
            rw [decide_eq_decide, t.2]
            unfold sgn
            split <;> lia
          · exact t
          · exact (h0 t).elim
        refine ih (p ++ [l]) _ _ (by rw [← app]; exact hz) ?_
        rcases hp with ⟨rfl, rfl, h⟩ | ⟨rfl, h1, h2, h3⟩ | ⟨h2, l₁, h₁, l₂, h₂, r⟩
        · refine .inl ⟨rfl, rfl, fun k hk => ?_⟩
          rcases List.mem_append.mp hk with hk | hk
          · exact h k hk
          · rw [List.mem_singleton.mp hk]; exact hn
        · refine .inr (.inl ⟨rfl, by simp [h1], h2, fun k hk hne => ?_⟩)
          rcases List.mem_append.mp hk with hk | hk
          · exact h3 k hk hne
          · rw [List.mem_singleton.mp hk]; exact hn
        · exact .inr (.inr ⟨h2, l₁, by simp [h₁], l₂, by simp [h₂], r⟩)

theorem csGo_all {n : Nat} {xs c : List Int} (V : Val n xs) (hz : ∀ l ∈ c, l ≠ 0) : CsR xs c (csGo xs c 0 0) :=
  csGo_spec V c [] 0 0 hz (.inl ⟨rfl, rfl, by simp⟩)

theorem getD_set {xs : List Int} {i j : Nat} {v : Int} (hi : i < xs.length) : (xs.set i v).getD j 0 = if i = j then v else xs.getD j 0 := by
  rw [List.getD_eq_getElem?_getD, List.getD_eq_getElem?_getD, List.getElem?_set]
  by_cases h : i = j
  · subst h; simp [hi]
  · simp [h]

/-- put_true -/
theorem Val.put {n : Nat} {xs : List Int} {l : Int} (V : Val n xs) (h : OkL n l) : Val n (ptX xs l) ∧ (ptB xs l = true → ∀ k, Tr (ptX xs l) k ↔ Tr xs k ∨ k = l) ∧ (ptB xs l = false → Tr xs (-l)) := by
  have hl : l.natAbs < xs.length := by rw [V.len]; have := h.2; lia
  unfold ptX ptB
  by_cases hq : xs.getD l.natAbs 0 = -sgn l
  · have e : decide (xs.getD l.natAbs 0 ≠ -sgn l) = false := by rw [hq]; simp
    rw [e]
    refine ⟨V, by simp, fun _ => ⟨by have := h.1; lia, ?_⟩⟩
    rw [Int.natAbs_neg, sgn_neg h.1, hq]
  · have e : decide (xs.getD l.natAbs 0 ≠ -sgn l) = true := decide_eq_true hq
    rw [e, if_pos rfl]
    refine ⟨⟨by rw [List.length_set]; exact V.len, fun k => ?_⟩, fun _ k => ?_, by simp⟩
    · rw [getD_set hl]
      split
      · rcases sgn_or l with q | q <;> rw [q] <;> simp
      · exact V.tri k
    · unfold Tr
      rw [getD_set hl]
      by_cases hk : k = l
      · subst hk; simp [h.1]
      · constructor
        · rintro ⟨a, b⟩
          by_cases hn : l.natAbs = k.natAbs
          · rw [if_pos hn] at b
            have : k = -l := by lia
            subst this
            rw [sgn_neg h.1] at b
            rcases sgn_or l with q | q <;> rw [q] at b <;> exact absurd b (by decide)
          · rw [if_neg hn] at b; exact .inl ⟨a, b⟩
        · rintro (⟨a, b⟩ | e)
          · refine ⟨a, ?_⟩
            by_cases hn : l.natAbs = k.natAbs
            · have : k = -l := by lia
              subst this
              rw [Int.natAbs_neg, sgn_neg h.1] at b
              exact (hq b).elim
            · rw [if_neg hn]; exact b
          · exact (hk e).elim

noncomputable def zeros (xs : List Int) : Nat := xs.countP (fun x => x == 0)
theorem zeros_set {xs : List Int} {i : Nat} {v : Int} : ∀ (hi : i < xs.length), xs.getD i 0 = 0 → v ≠ 0 → zeros (xs.set i v) < zeros xs := by
  intro hi h0 hv
  unfold zeros
  rw [List.getD_eq_getElem?_getD, List.getElem?_eq_getElem hi] at h0
  rw [List.countP_set (by exact hi)]
  have h0' : xs[i] = 0 := h0
  have : 0 < xs.countP (fun x => x == 0) := List.countP_pos_iff.mpr ⟨xs[i], List.getElem_mem hi, by simp [h0']⟩
  simp [h0', hv]
  lia
theorem zeros_put {n : Nat} {xs : List Int} {l : Int} (V : Val n xs) (h : OkL n l) (o : Op xs l) : ptB xs l = true ∧ zeros (ptX xs l) < zeros xs := by
  have hl : l.natAbs < xs.length := by rw [V.len]; have := h.2; lia
  unfold Op at o
  have e : ptB xs l = true := by
    unfold ptB
    rw [o]
    rcases sgn_or l with q | q <;> rw [q] <;> decide
  refine ⟨e, ?_⟩
  unfold ptX
  rw [e, if_pos rfl]
  exact zeros_set hl o (by rcases sgn_or l with q | q <;> rw [q] <;> decide)
theorem Val.zero (n : Nat) : Val n (List.replicate (n + 1) 0) where
  len := by simp
  tri := fun k => .inl (by rw [List.getD_eq_getElem?_getD, List.getElem?_replicate]; split <;> rfl)
theorem not_tr_zero {n : Nat} {l : Int} : ¬ Tr (List.replicate (n + 1) 0) l := by
  apply (Op.not _).1
  unfold Op
  rw [List.getD_eq_getElem?_getD, List.getElem?_replicate]; split <;> rfl
end Mine

/-! P3 -/
namespace Mine
open PySem
noncomputable def E3a (v0 v1 v2 v3 v4 v5 v6 v7 : V) : Loc := [("count", v0), ("clauses", v1), ("literals", v2), ("values", v3), ("literal", v4), ("changed", v5), ("clause", v6), ("state", v7)]
section
variable {v0 v1 v2 v3 v4 v5 v6 v7 w : V}
theorem E3a_g0 : lget (E3a v0 v1 v2 v3 v4 v5 v6 v7) (Str.ofString "count") = some v0 := (rfl)
theorem E3a_g1 : lget (E3a v0 v1 v2 v3 v4 v5 v6 v7) (Str.ofString "clauses") = some v1 := (rfl)
theorem E3a_g2 : lget (E3a v0 v1 v2 v3 v4 v5 v6 v7) (Str.ofString "literals") = some v2 := (rfl)
theorem E3a_g3 : lget (E3a v0 v1 v2 v3 v4 v5 v6 v7) (Str.ofString "values") = some v3 := (rfl)
theorem E3a_s3 : lset (E3a v0 v1 v2 v3 v4 v5 v6 v7) (Str.ofString "values") w = E3a v0 v1 v2 w v4 v5 v6 v7 := (rfl)
theorem E3a_g4 : lget (E3a v0 v1 v2 v3 v4 v5 v6 v7) (Str.ofString "literal") = some v4 := (rfl)
theorem E3a_s4 : lset (E3a v0 v1 v2 v3 v4 v5 v6 v7) (Str.ofString "literal") w = E3a v0 v1 v2 v3 w v5 v6 v7 := (rfl)
theorem E3a_g5 : lget (E3a v0 v1 v2 v3 v4 v5 v6 v7) (Str.ofString "changed") = some v5 := (rfl)
theorem E3a_s5 : lset (E3a v0 v1 v2 v3 v4 v5 v6 v7) (Str.ofString "changed") w = E3a v0 v1 v2 v3 v4 w v6 v7 := (rfl)
theorem E3a_g6 : lget (E3a v0 v1 v2 v3 v4 v5 v6 v7) (Str.ofString "clause") = some v6 := (rfl)
theorem E3a_s6 : lset (E3a v0 v1 v2 v3 v4 v5 v6 v7) (Str.ofString "clause") w = E3a v0 v1 v2 v3 v4 v5 w v7 := (rfl)
theorem E3a_g7 : lget (E3a v0 v1 v2 v3 v4 v5 v6 v7) (Str.ofString "state") = some v7 := (rfl)
theorem E3a_s7 : lset (E3a v0 v1 v2 v3 v4 v5 v6 v7) (Str.ofString "state") w = E3a v0 v1 v2 v3 v4 v5 v6 w := (rfl)
end

noncomputable def OkC (n : Nat) (c : List Int) : Prop := ∀ l ∈ c, OkL n l
inductive SpPF (vs : List V) (h : Hp) (r : V) (h' : Hp) : Prop
  | mk (n : Nat) (ci li : Nat) (C : List (List Int)) (L : List Int) (b : Bool) (e0 : vs = [.int n, .ref ci, .ref li]) (e1 : lsAt h ci = some (dCls C)) (e2 : lsAt h li = some (dIs L)) (e3 : n ≤ 100) (e4 : C.length ≤ 1000) (e5 : L.length ≤ 1000) (e6 : (∀ c ∈ C, OkC n c)) (e7 : OkC n L) (e8 : r = .bool b) (e9 : (b = true ↔ Fails C L)) (e10 : h' = h) : SpPF vs h r h'

theorem bin_rep {h : Hp} {i : Nat} {x : D} {k : Int} {Q : V → Hp → Prop} (hi : lsAt h i = some [x]) (h0 : 0 ≤ k) (h1 : k ≤ 1000) (q : Q (.ref h.length) (h ++ [.list (List.replicate k.toNat x)])) : binop .Mult (.ref i) (.int k) h Q := by
  show (match lsAt h i with | some [x] => _ | _ => False)
  rw [hi]
  exact ⟨h0, h1, q⟩
noncomputable def hp2 (h : Hp) (xs : List Int) : Hp := (h ++ [.list [dI 0]]) ++ [.list (dIs xs)]
theorem hp2_len {h : Hp} {xs : List Int} : List.length (hp2 h xs) = h.length + 2 := by simp [hp2]
theorem hp2_ls {h : Hp} {xs : List Int} : lsAt (hp2 h xs) (h.length + 1) = some (dIs xs) := by
  have := lsAt_last (h := h ++ [.list [dI 0]]) (xs := dIs xs)
  rwa [List.length_append] at this
theorem hp2_old {h : Hp} {xs : List Int} {i : Nat} {ds : List D} (e : lsAt h i = some ds) : lsAt (hp2 h xs) i = some ds := lsAt_append (lsAt_append e)
theorem hp2_set {h : Hp} {xs ys : List Int} : List.set (hp2 h xs) (h.length + 1) (.list (dIs ys)) = hp2 h ys := by
  unfold hp2
  rw [List.set_append_right _ _ (by simp)]
  simp
theorem hp2_take {h : Hp} {xs : List Int} : List.take h.length (hp2 h xs) = h := by simp [hp2]
theorem hp2_take2 {h : Hp} {xs : List Int} : List.take (h.length + 2) (hp2 h xs) = hp2 h xs := List.take_of_length_le (by rw [hp2_len]; exact Nat.le_refl _)

theorem str_eq {a b : String} : (Str.ofString a == Str.ofString b) = decide (a = b) := by rw [ofString_beq]; by_cases h : a = b <;> simp [h]
noncomputable def Quiet (xs c : List Int) : Prop := (∃ l ∈ c, Tr xs l) ∨ ∃ l₁ ∈ c, ∃ l₂ ∈ c, l₁ ≠ l₂ ∧ Op xs l₁ ∧ Op xs l₂
inductive I3a (n ci li : Nat) (C : List (List Int)) (L : List Int) (h' : Hp) (r : List Int) (m : Loc) (h : Hp) : Prop
  | mk (xs : List Int) (l : V) (e0 : m = (E3a (.int n) (.ref ci) (.ref li) (.ref (h'.length + 1)) l .undef .undef .undef)) (e1 : h = hp2 h' xs) (e2 : Val n xs) (e3 : (∀ l, Tr xs l → Der C L l)) (e4 : (∀ l ∈ L, l ∈ r ∨ Tr xs l)) (e5 : ∀ l ∈ r, l ∈ L) : I3a n ci li C L h' r m h
inductive I3b (n ci li : Nat) (C : List (List Int)) (L : List Int) (h' : Hp) (k : Nat) (m : Loc) (h : Hp) : Prop
  | mk (xs : List Int) (ch : Bool) (l c s : V) (e0 : k = 2 * zeros xs + (if ch = true then 1 else 0)) (e1 : m = (E3a (.int n) (.ref ci) (.ref li) (.ref (h'.length + 1)) l (.bool ch) c s)) (e2 : h = hp2 h' xs) (e3 : Val n xs) (e4 : (∀ l, Tr xs l → Der C L l)) (e5 : (∀ l ∈ L, Tr xs l)) (e6 : (ch = false → ∀ c ∈ C, Quiet xs c)) : I3b n ci li C L h' k m h
inductive I3c (n ci li : Nat) (C : List (List Int)) (L : List Int) (h' : Hp) (xs : List Int) (r : List (List Int)) (m : Loc) (h : Hp) : Prop
  | mk (ys : List Int) (ch : Bool) (l c s : V) (e0 : m = (E3a (.int n) (.ref ci) (.ref li) (.ref (h'.length + 1)) l (.bool ch) c s)) (e1 : h = hp2 h' ys) (e2 : Val n ys) (e3 : (∀ l, Tr ys l → Der C L l)) (e4 : (∀ l ∈ L, Tr ys l)) (e5 : ((ch = true ∧ zeros ys < zeros xs) ∨ (ch = false ∧ ys = xs ∧ ∀ c ∈ C, c ∈ r ∨ Quiet xs c))) (e6 : ∀ c ∈ r, c ∈ C) : I3c n ci li C L h' xs r m h
theorem fn_pf (Γ : Gam) (hcs : ∀ vs h r h', SpCS vs h r h' → Γ (Str.ofString "clause_state") vs h r h') (hpt : ∀ vs h r h', SpPT vs h r h' → Γ (Str.ofString "put_true") vs h r h') : FnOk Γ 3 SpPF := by
  rintro vs h r h' ⟨n, ci, li, C, L, b, rfl, hci, hli, hn, hC, hL, oC, oL, rfl, hb, rfl⟩
  refine ⟨rfl, by simp, ?_⟩
  have e : initLoc (localsAt 3) (paramsAt 3) [.int n, .ref ci, .ref li] = (E3a (.int n) (.ref ci) (.ref li) .undef .undef .undef .undef .undef) := by rfl
  have hbc := lsAt_lt hci
  have hbl := lsAt_lt hli
  have hbc2 : ci < h'.length + 2 := by lia
  have hbl2 : li < h'.length + 2 := by lia
  have hbv : h'.length + 1 < h'.length + 2 := by lia
  rw [e]
  conv in bodyAt 3 => whnf
  ((try simp only [evB_cons, evS_Assign, evE_Bin, evE_List, evEs_cons, fE_ap, evE_int, kE1_ap, evEs_nil, kE2_ap, kLst_ap, datas_cons, datas_nil, Option.map_some, List.length_cons, List.length_nil, Nat.reduceAdd, Nat.reduceLeDiff, kBi1_ap, evE_Name, E3a_g0, kNm_some, ne_eq, reduceCtorEq, not_false_eq_true, kBi2_ap, bin_add, true_and]); try (refine retQ ?_; try simp only [List.take_length, and_true, true_and]))
  refine bin_rep lsAt_last (by lia) (by lia) ?_
  ((try simp only [kAs_ap, hasL, E3a_g3, Option.isSome_some, E3a_s3, kB_next, evB_cons, evS_ForNot, evE_Name, E3a_g2, kNm_some, ne_eq, reduceCtorEq, not_false_eq_true, kFor_ap, true_and]); try (refine retQ ?_; try simp only [List.take_length, and_true, true_and]))
  have e2 : (h' ++ [O.list [D.a (At.int 0)]] ++ [O.list (List.replicate ((n : Int) + 1).toNat (D.a (At.int 0)))] : Hp) = hp2 h' (List.replicate (n + 1) 0) := by
    unfold hp2 dIs
    rw [List.map_replicate]
    rfl
  have e3 : List.length (h' ++ [O.list [D.a (At.int 0)]] : Hp) = h'.length + 1 := by simp
  rw [e2, e3]
  refine forV_ints (hp2_old hli) (by lia) (I3a n ci li C L h') ?_ ?_ ?_ ?_
  · exact ⟨_, _, rfl, rfl, Val.zero n, fun l t => (not_tr_zero t).elim, fun l hl => .inl hl, fun l hl => hl⟩
  · rintro r m h ⟨xs, l, rfl, rfl, -⟩
    exact hp2_old hli
  · rintro a r m h ⟨xs, l, rfl, rfl, hv, hd, hr, hs⟩
    have ha : OkL n a := oL a (hs a (.head _))
    obtain ⟨p1, p2, p3⟩ := hv.put ha
    ((try simp only [hasL, E3a_g4, Option.isSome_some, E3a_s4, evB_cons, evS_If, evT_Not, evT_Call, evE_Call, evEs_cons, fE_ap, evE_Name, E3a_g3, kNm_some, ne_eq, reduceCtorEq, not_false_eq_true, kE1_ap, evEs_nil, kE2_ap, kCa_ap, true_and]); try (refine retQ ?_; try simp only [List.take_length, and_true, true_and]))
    refine ⟨_, _, hpt _ _ _ _ ⟨_, xs, a, rfl, hp2_ls, by rw [hv.len]; lia, by rw [hv.len]; have := ha.2; lia, rfl, rfl⟩, ?_⟩
    rw [hp2_set]
    ((try simp only [hp2_len, kTB_ap, kNot_ap, kIf_ap, evB_cons, evS_Return, evE_bool, kR_ap, kB_ret, kTu_ret, evB_nil, kB_next, kTu_next, hp2_take2]); try (refine retQ ?_; try simp only [List.take_length, and_true, true_and, hp2_len, hp2_take2]))
    cases q : ptB xs a with
    | true =>
      refine ⟨_, ?_, ptX xs a, .int a, rfl, rfl, p1, fun k hk => ?_, fun k hk => ?_, fun k hk => hs k (.tail _ hk)⟩
      · (repeat' (first | exact weak_nil | exact trivial | assumption | apply weak_drop | apply weak_keep))
      · rcases (p2 q k).mp hk with t | rfl
        · exact hd k t
        · exact .base (hs _ (.head _))
      · rcases hr k hk with t | t
        · rcases List.mem_cons.mp t with rfl | t
          · exact .inr ((p2 q _).mpr (.inr rfl))
          · exact .inl t
        · exact .inr ((p2 q _).mpr (.inl t))
    | false =>
      have : b = true := hb.mpr (.inl ⟨a, .base (hs a (.head _)), hd _ (p3 q)⟩)
      rw [this]
      exact ⟨rfl, trivial, Nat.le_refl _, by rw [hp2_take]⟩
  · rintro m h ⟨xs, l, rfl, rfl, hv, hd, hr, -⟩
    have hr' : ∀ l ∈ L, Tr xs l := fun l hl => (hr l hl).resolve_left (by simp)
    ((try simp only [kB_next, evB_cons, evS_Assign, evE_bool, kAs_ap, hasL, E3a_g5, Option.isSome_some, E3a_s5, evS_While, kB_ret, evS_ForAssign, evE_Name, evS_Return, kR_ap, evT_Name, true_and]); try (refine retQ ?_; try simp only [List.take_length, and_true, true_and, evS_While]))
    refine ⟨(I3b n ci li C L h'), _, ⟨xs, true, _, _, _, rfl, rfl, rfl, hv, hd, hr', by simp⟩, ?_⟩
    clear hr hr' hv hd
    rintro k m h ⟨xs, ch, l, c, s, rfl, rfl, rfl, hv, hd, hr, hq⟩
    ((try simp only [hp2_len, Nat.reduceLeDiff, E3a_g5, Option.isSome_some, E3a_s5, E3a_g1, kNm_some, ne_eq, reduceCtorEq, not_false_eq_true, kFor_ap, true_and, kTB_ap]); try (refine retQ ?_; try simp only [List.take_length, and_true, true_and, hp2_len]))
    refine ⟨Nat.le_refl _, ?_⟩
    cases ch with
    | false =>
      ((try simp only [Bool.false_eq_true, if_false]); try (refine retQ ?_; try simp only [List.take_length, and_true, true_and]))
      have : b = false := by
        cases b with
        | false => rfl
        | true => exact (not_fails (Tr xs) hr (fun l t => t.cons) (fun c hc => (hq rfl c hc).imp id fun ⟨l₁, h₁, l₂, h₂, hne, o₁, o₂⟩ => ⟨l₁, h₁, l₂, h₂, hne, o₁.not.2, o₂.not.2⟩) (hb.mp rfl)).elim
      rw [this]
      exact ⟨rfl, trivial, Nat.le_refl _, by rw [hp2_take]⟩
    | true =>
      ((try simp only [if_true]); try (refine retQ ?_; try simp only [List.take_length, and_true, true_and]))
      refine forV_cls (hp2_old hci) (by lia) (I3c n ci li C L h' xs) ?_ ?_ ?_ ?_
      · exact ⟨xs, false, _, _, _, rfl, rfl, hv, hd, hr, .inr ⟨rfl, rfl, fun c hc => .inl hc⟩, fun c hc => hc⟩
      · rintro r m h ⟨ys, ch, l, c, s, rfl, rfl, -⟩
        exact hp2_old hci
      · clear hv hd hr
        rintro a r m h ⟨ys, ch, l, c, s, rfl, rfl, hv, hd, hr, hch, hs⟩
        have haC : a ∈ C := hs a (.head _)
        have ha : OkC n a := oC a haC
        have R := csGo_all hv (fun l hl => (ha l hl).1)
        ((try simp only [hasL, E3a_g6, Option.isSome_some, E3a_s6, hp2_len, evB_cons, evS_Assign2, evE_Call, evEs_cons, fE_ap, evE_Name, E3a_g3, kNm_some, ne_eq, reduceCtorEq, not_false_eq_true, kE1_ap, evEs_nil, kE2_ap, kCa_ap, true_and]); try (refine retQ ?_; try simp only [List.take_length, and_true, true_and, hp2_len]))
        refine ⟨_, _, hcs _ _ _ _ ⟨_, ys, a, rfl, hp2_ls, by rw [hv.len]; lia, fun l hl => by rw [hv.len]; have := (ha l hl).2; lia, rfl, rfl⟩, ?_⟩
        rcases R with ⟨e, R⟩ | ⟨e, R⟩ | ⟨f, e, R⟩ | ⟨e, R⟩
        all_goals rw [e]; simp only [sStr]
        · ((try simp only [kAs2_ap, hasL, E3a_g7, Option.isSome_some, E3a_g4, E3a_s7, E3a_s4, kB_next, evB_cons, evS_If, evT_Compare, evE_Name, kNm_some, ne_eq, reduceCtorEq, not_false_eq_true, kTC1_ap, evE_str, kTC2_ap, cmp_eqS, str_eq, String.reduceEq, kTC3_ap, kIf_ap, evS_Return, evE_bool, kR_ap, kB_ret, kTu_ret, evB_nil, evS_Expr, evE_Call, evEs_cons, fE_ap, E3a_g3, kE1_ap, evEs_nil, kE2_ap, kCa_ap, true_and, kTu_next, hp2_take2]); try (refine retQ ?_; try simp only [List.take_length, and_true, true_and, str_eq, hp2_take2]))
          refine ⟨_, ?_, ys, ch, .undef, .undef, .undef, rfl, rfl, hv, hd, hr, hch.imp id fun ⟨a1, a2, a3⟩ => ⟨a1, a2, fun c hc => ?_⟩, fun c hc => hs c (.tail _ hc)⟩
          · (repeat' (first | exact weak_nil | exact trivial | assumption | apply weak_drop | apply weak_keep))
          · rcases a3 c hc with t | t
            · rcases List.mem_cons.mp t with rfl | t
              · exact .inr (.inl (a2 ▸ R))
              · exact .inl t
            · exact .inr t
        · ((try simp only [kAs2_ap, hasL, E3a_g7, Option.isSome_some, E3a_g4, E3a_s7, E3a_s4, kB_next, evB_cons, evS_If, evT_Compare, evE_Name, kNm_some, ne_eq, reduceCtorEq, not_false_eq_true, kTC1_ap, evE_str, kTC2_ap, cmp_eqS, beq_self_eq_true, kTC3_ap, kIf_ap, evS_Return, evE_bool, kR_ap, kB_ret, kTu_ret, evB_nil, str_eq, String.reduceEq, evS_Expr, evE_Call, evEs_cons, fE_ap, E3a_g3, kE1_ap, evEs_nil, kE2_ap, kCa_ap, true_and, kTu_next, if_true]); try (refine retQ ?_; try simp only [List.take_length, and_true, true_and, str_eq]))
          have : b = true := hb.mpr (.inr ⟨a, haC, fun l hl => hd _ (R l hl)⟩)
          rw [this]
          exact ⟨rfl, trivial, Nat.le_refl _, by rw [hp2_take]⟩
        · obtain ⟨z1, z2⟩ := zeros_put hv (ha f R.1) R.2.1
          obtain ⟨p1, p2, p3⟩ := hv.put (ha f R.1)
          ((try simp only [kAs2_ap, hasL, E3a_g7, Option.isSome_some, E3a_g4, E3a_s7, E3a_s4, kB_next, evB_cons, evS_If, evT_Compare, evE_Name, kNm_some, ne_eq, reduceCtorEq, not_false_eq_true, kTC1_ap, evE_str, kTC2_ap, cmp_eqS, str_eq, String.reduceEq, kTC3_ap, kIf_ap, evS_Return, evE_bool, kR_ap, kB_ret, kTu_ret, evB_nil, beq_self_eq_true, evS_Expr, evE_Call, evEs_cons, fE_ap, E3a_g3, kE1_ap, evEs_nil, kE2_ap, kCa_ap, true_and, kTu_next, if_true]); try (refine retQ ?_; try simp only [List.take_length, and_true, true_and, str_eq]))
          refine ⟨_, _, hpt _ _ _ _ ⟨_, ys, f, rfl, hp2_ls, by rw [hv.len]; lia, by rw [hv.len]; have := (ha f R.1).2; lia, rfl, rfl⟩, ?_⟩
          rw [hp2_set]
          ((try simp only [kX_ap, kB_next, evB_cons, evS_Assign, evE_bool, kAs_ap, hasL, E3a_g5, Option.isSome_some, E3a_s5, evB_nil, kTu_next, hp2_take2, true_and]); try (refine retQ ?_; try simp only [List.take_length, and_true, true_and, hp2_take2]))
          refine ⟨_, ?_, ptX ys f, true, .undef, .undef, .undef, rfl, rfl, p1, fun k hk => ?_, fun k hk => (p2 z1 k).mpr (.inl (hr k hk)), .inl ⟨rfl, ?_⟩, fun c hc => hs c (.tail _ hc)⟩
          · (repeat' (first | exact weak_nil | exact trivial | assumption | apply weak_drop | apply weak_keep))
          · rcases (p2 z1 k).mp hk with t | rfl
            · exact hd k t
            · exact .unit haC R.1 fun l' hl' hne => hd _ (R.2.2 l' hl' hne)
          · rcases hch with ⟨_, q⟩ | ⟨_, q, _⟩
            · lia
            · rw [← q]; exact z2
        · ((try simp only [kAs2_ap, hasL, E3a_g7, Option.isSome_some, E3a_g4, E3a_s7, E3a_s4, kB_next, evB_cons, evS_If, evT_Compare, evE_Name, kNm_some, ne_eq, reduceCtorEq, not_false_eq_true, kTC1_ap, evE_str, kTC2_ap, cmp_eqS, str_eq, String.reduceEq, kTC3_ap, kIf_ap, evS_Return, evE_bool, kR_ap, kB_ret, kTu_ret, evB_nil, evS_Expr, evE_Call, evEs_cons, fE_ap, E3a_g3, kE1_ap, evEs_nil, kE2_ap, kCa_ap, true_and, kTu_next, hp2_take2]); try (refine retQ ?_; try simp only [List.take_length, and_true, true_and, str_eq, hp2_take2]))
          refine ⟨_, ?_, ys, ch, .undef, .undef, .undef, rfl, rfl, hv, hd, hr, hch.imp id fun ⟨a1, a2, a3⟩ => ⟨a1, a2, fun c hc => ?_⟩, fun c hc => hs c (.tail _ hc)⟩
          · (repeat' (first | exact weak_nil | exact trivial | assumption | apply weak_drop | apply weak_keep))
          · rcases a3 c hc with t | t
            · rcases List.mem_cons.mp t with rfl | t
              · exact .inr (.inr (a2 ▸ R))
              · exact .inl t
            · exact .inr t
      · clear hv hd hr
        rintro m h ⟨ys, ch, l, c, s, rfl, rfl, hv, hd, hr, hch, -⟩
        refine ⟨2 * zeros ys + (if ch = true then 1 else 0), _, ?_, ?_, ys, ch, .undef, .undef, .undef, rfl, rfl, ?_, hv, hd, hr, ?_⟩
        · rcases hch with ⟨rfl, q⟩ | ⟨rfl, rfl, _⟩
          · simp only [if_true]; lia
          · simp only [Bool.false_eq_true, if_false, if_true]; lia
        · refine weak_keep trivial (weak_keep hbc2 (weak_keep hbl2 (weak_keep hbv (weak_drop (weak_keep trivial (weak_drop (weak_drop weak_nil)))))))
        · exact hp2_take2
        · rintro rfl c hc
          rcases hch with ⟨q, _⟩ | ⟨_, rfl, q⟩
          · cases q
          · exact (q c hc).resolve_left (by simp)
end Mine

/-! P4 -/
namespace Mine
open PySem
noncomputable def E4a (v0 v1 v2 v3 v4 : V) : Loc := [("count", v0), ("clauses", v1), ("learned", v2), ("known", v3), ("clause", v4)]
section
variable {v0 v1 v2 v3 v4 w : V}
theorem E4a_g0 : lget (E4a v0 v1 v2 v3 v4) (Str.ofString "count") = some v0 := (rfl)
theorem E4a_g1 : lget (E4a v0 v1 v2 v3 v4) (Str.ofString "clauses") = some v1 := (rfl)
theorem E4a_g2 : lget (E4a v0 v1 v2 v3 v4) (Str.ofString "learned") = some v2 := (rfl)
theorem E4a_g3 : lget (E4a v0 v1 v2 v3 v4) (Str.ofString "known") = some v3 := (rfl)
theorem E4a_s3 : lset (E4a v0 v1 v2 v3 v4) (Str.ofString "known") w = E4a v0 v1 v2 w v4 := (rfl)
theorem E4a_g4 : lget (E4a v0 v1 v2 v3 v4) (Str.ofString "clause") = some v4 := (rfl)
theorem E4a_s4 : lset (E4a v0 v1 v2 v3 v4) (Str.ofString "clause") w = E4a v0 v1 v2 v3 w := (rfl)
end

theorem icB_ok {n : Nat} {c : List Int} : icB n c = true ↔ OkC n c := by
  unfold icB OkC OkL
  rw [List.all_eq_true]
  constructor
  · intro h l hl
    have := h l hl
    simp at this
    lia
  · intro h l hl
    have := h l hl
    simp
    lia

noncomputable def Chk (n : Nat) : List (List Int) → List (List Int) → Prop
  | _, [] => True
  | K, w :: W => OkC n w ∧ Fails K (w.map fun l => -l) ∧ Chk n (K ++ [w]) W
noncomputable def Takes (n : Nat) (C W : List (List Int)) : Prop := (∀ c ∈ C, OkC n c) ∧ Chk n C W ∧ W.getLast? = some []

inductive SpCR (vs : List V) (h : Hp) (r : V) (h' : Hp) : Prop
  | mk (n : Nat) (ci wi : Nat) (C W : List (List Int)) (b : Bool) (e0 : vs = [.int n, .ref ci, .ref wi]) (e1 : lsAt h ci = some (dCls C)) (e2 : lsAt h wi = some (dCls W)) (e3 : n ≤ 100) (e4 : C.length + W.length ≤ 1000) (e5 : (∀ c ∈ W, c.length ≤ 1000)) (e6 : r = .bool b) (e7 : (b = true ↔ Takes n C W)) (e8 : h' = h) : SpCR vs h r h'

theorem set_last {h : Hp} {o p : O} : List.set (h ++ [o]) h.length p = h ++ [p] := by
  rw [List.set_append_right _ _ (Nat.le_refl _)]; simp
theorem set_last2 {h : Hp} {o p q : O} : List.set ((h ++ [o]) ++ [q]) h.length p = (h ++ [p]) ++ [q] := by
  rw [List.append_assoc, List.set_append_right _ _ (Nat.le_refl _)]; simp
theorem take_last {h : Hp} {o : O} : List.take h.length (h ++ [o]) = h := by simp
theorem take_last2 {h : Hp} {o q : O} : List.take (h.length + 1) ((h ++ [o]) ++ [q]) = h ++ [o] := by
  have := take_last (h := h ++ [o]) (o := q)
  rwa [List.length_append] at this
theorem dCls_snoc {K : List (List Int)} {w : List Int} : dCls K ++ [D.t (aIs w)] = dCls (K ++ [w]) := by simp [dCls, dCl]

inductive I4a (n ci wi : Nat) (C : List (List Int)) (h' : Hp) (r : List (List Int)) (m : Loc) (h : Hp) : Prop
  | mk (l : V) (e0 : m = (E4a (.int n) (.ref ci) (.ref wi) (.ref h'.length) l)) (e1 : h = h' ++ [.list (dCls C)]) (e2 : (∀ c ∈ C, c ∈ r ∨ OkC n c)) (e3 : ∀ c ∈ r, c ∈ C) : I4a n ci wi C h' r m h
inductive I4b (n ci wi : Nat) (C W : List (List Int)) (h' : Hp) (r : List (List Int)) (m : Loc) (h : Hp) : Prop
  | mk (K : List (List Int)) (l : V) (e0 : m = (E4a (.int n) (.ref ci) (.ref wi) (.ref h'.length) l)) (e1 : h = h' ++ [.list (dCls K)]) (e2 : K.length + r.length ≤ 1000) (e3 : (∀ c ∈ K, OkC n c)) (e4 : (Chk n C W ↔ Chk n K r)) (e5 : ∀ c ∈ r, c ∈ W) : I4b n ci wi C W h' r m h
theorem fn_cr (Γ : Gam) (hic : ∀ vs h r h', SpIC vs h r h' → Γ (Str.ofString "is_clause") vs h r h') (hpf : ∀ vs h r h', SpPF vs h r h' → Γ (Str.ofString "propagation_fails") vs h r h') : FnOk Γ 5 SpCR := by
  rintro vs h r h' ⟨n, ci, wi, C, W, b, rfl, hci, hwi, hn, hC, hW, rfl, hb, rfl⟩
  refine ⟨rfl, by simp, ?_⟩
  have e : initLoc (localsAt 5) (paramsAt 5) [.int n, .ref ci, .ref wi] = (E4a (.int n) (.ref ci) (.ref wi) .undef .undef) := by rfl
  have hbc := lsAt_lt hci
  have hbw := lsAt_lt hwi
  have hbc2 : ci < h'.length + 1 := by lia
  have hbw2 : wi < h'.length + 1 := by lia
  have hbv : h'.length < h'.length + 1 := by lia
  rw [e]
  conv in bodyAt 5 => whnf
  ((try simp only [evB_cons, evS_Assign, evE_Call, evEs_cons, fE_ap, evE_Name, E4a_g1, kNm_some, ne_eq, reduceCtorEq, not_false_eq_true, kE1_ap, evEs_nil, kE2_ap, kCa_ap, true_and]); try (refine retQ ?_; try simp only [List.take_length, and_true, true_and]))
  refine cf_list hci (by rw [dCls_len]; lia) ?_
  ((try simp only [kAs_ap, hasL, E4a_g3, Option.isSome_some, E4a_s3, kB_next, evB_cons, evS_ForNot, evE_Name, kNm_some, ne_eq, reduceCtorEq, not_false_eq_true, kFor_ap, true_and]); try (refine retQ ?_; try simp only [List.take_length, and_true, true_and]))
  have len1 : ∀ ds : List D, List.length (h' ++ [O.list ds] : Hp) = h'.length + 1 := fun ds => by simp
  have hfalse : ¬ Takes n C W → b = false := fun q => by
    cases b with
    | false => rfl
    | true => exact (q (hb.mp rfl)).elim
  refine forV_cls lsAt_last (by lia) (I4a n ci wi C h') ?_ ?_ ?_ ?_
  · exact ⟨_, rfl, rfl, fun c hc => .inl hc, fun c hc => hc⟩
  · rintro r m h ⟨l, rfl, rfl, -⟩
    exact lsAt_last
  · rintro a r m h ⟨l, rfl, rfl, hr, hs⟩
    ((try simp only [hasL, E4a_g4, Option.isSome_some, E4a_s4, evB_cons, evS_If, evT_Not, evT_Call, evE_Call, evEs_cons, fE_ap, evE_Name, E4a_g0, kNm_some, ne_eq, reduceCtorEq, not_false_eq_true, kE1_ap, evEs_nil, kE2_ap, kCa_ap, true_and]); try (refine retQ ?_; try simp only [List.take_length, and_true, true_and]))
    refine ⟨_, _, hic _ _ _ _ ⟨n, a, rfl, rfl, rfl⟩, ?_⟩
    ((try simp only [kTB_ap, kNot_ap, kIf_ap, evB_cons, evS_Return, evE_bool, kR_ap, kB_ret, kTu_ret, evB_nil, kB_next, kTu_next, List.take_length]); try (refine retQ ?_; try simp only [List.take_length, and_true, true_and]))
    cases q : icB n a with
    | false =>
      ((try simp only [Bool.not_false, if_true]); try (refine retQ ?_; try simp only [List.take_length, and_true, true_and, Bool.not_false]))
      rw [hfalse fun t => by rw [icB_ok.mpr (t.1 a (hs a (.head _)))] at q; cases q]
      exact ⟨rfl, trivial, Nat.le_refl _, take_last.symm⟩
    | true =>
      ((try simp only [Bool.not_true, Bool.false_eq_true, if_false]); try (refine retQ ?_; try simp only [List.take_length, and_true, true_and, Bool.not_true]))
      refine ⟨_, ?_, .undef, rfl, rfl, ?_, fun c hc => hs c (.tail _ hc)⟩
      · rw [len1]; (repeat' (first | exact weak_nil | exact trivial | assumption | apply weak_drop | apply weak_keep))
      · intro c hc
        rcases hr c hc with t | t
        · rcases List.mem_cons.mp t with rfl | t
          · exact .inr (icB_ok.mp q)
          · exact .inl t
        · exact .inr t
  · rintro m h ⟨l, rfl, rfl, hr, -⟩
    have hCok : ∀ c ∈ C, OkC n c := fun c hc => (hr c hc).resolve_left (by simp)
    ((try simp only [kB_next, evB_cons, evS_ForNot, evE_Name, E4a_g2, kNm_some, ne_eq, reduceCtorEq, not_false_eq_true, kFor_ap, true_and]); try (refine retQ ?_; try simp only [List.take_length, and_true, true_and]))
    refine forV_cls (lsAt_append hwi) (by lia) (I4b n ci wi C W h') ?_ ?_ ?_ ?_
    · exact ⟨C, _, rfl, rfl, hC, hCok, Iff.rfl, fun c hc => hc⟩
    · rintro r m h ⟨K, l, rfl, rfl, -⟩
      exact lsAt_append hwi
    · rintro a r m h ⟨K, l, rfl, rfl, hK, hok, hch, hs⟩
      rw [List.length_cons] at hK
      ((try simp only [hasL, E4a_g4, Option.isSome_some, E4a_s4, evB_cons, evS_If, evT_Not, evT_Call, evE_Call, evEs_cons, fE_ap, evE_Name, E4a_g0, kNm_some, ne_eq, reduceCtorEq, not_false_eq_true, kE1_ap, evEs_nil, kE2_ap, kCa_ap, true_and]); try (refine retQ ?_; try simp only [List.take_length, and_true, true_and]))
      refine ⟨_, _, hic _ _ _ _ ⟨n, a, rfl, rfl, rfl⟩, ?_⟩
      ((try simp only [kTB_ap, kNot_ap, kIf_ap, evB_cons, evS_Return, evE_bool, kR_ap, kB_ret, kTu_ret, evB_nil, kB_next, evS_If, evT_Not, evT_Call, evE_Call, evEs_cons, fE_ap, evE_Name, E4a_g0, kNm_some, ne_eq, reduceCtorEq, not_false_eq_true, kE1_ap, E4a_g3, evE_Comp, E4a_g4, kCo_ap, evEs_nil, kE2_ap, kCa_ap, true_and]); try (refine retQ ?_; try simp only [List.take_length, and_true, true_and]))
      cases q : icB n a with
      | false =>
        ((try simp only [Bool.not_false, if_true]); try (refine retQ ?_; try simp only [List.take_length, and_true, true_and, Bool.not_false]))
        rw [hfalse fun t => by have := (hch.mp t.2.1).1; rw [icB_ok.mpr this] at q; cases q]
        exact ⟨rfl, trivial, Nat.le_refl _, take_last.symm⟩
      | true =>
        have hao := icB_ok.mp q
        have hal := hW a (hs a (.head _))
        ((try simp only [Bool.not_true, Bool.false_eq_true, atInts_aIs, if_false]); try (refine retQ ?_; try simp only [List.take_length, and_true, true_and, Bool.not_true, atInts_aIs]))
        refine ⟨hal, ?_⟩
        (try (refine retQ ?_; try simp only [List.take_length, and_true, true_and]))
        have e3 : (List.map (fun k : Int => D.a (At.int (-k))) a) = dIs (a.map fun l => -l) := by simp [dIs, dI]
        rw [e3, len1]
        have hno : OkC n (a.map fun l => -l) := by
          intro l hl
          obtain ⟨k, hk, rfl⟩ := List.mem_map.mp hl
          have := hao k hk
          exact ⟨by have := this.1; lia, by rw [Int.natAbs_neg]; exact this.2⟩
        have lsn := lsAt_last (h := h' ++ [O.list (dCls K)]) (xs := dIs (a.map fun l => -l))
        rw [len1] at lsn
        by_cases hf : Fails K (a.map fun l => -l)
        · refine ⟨.bool true, _, hpf _ _ _ _ ⟨n, _, _, K, _, true, rfl, lsAt_append lsAt_last, lsn, hn, by lia, by rw [List.length_map]; exact hal, hok, hno, rfl, by simp [hf], rfl⟩, ?_⟩
          ((try simp only [kTB_ap, kNot_ap, Bool.not_true, kIf_ap, Bool.false_eq_true, evB_cons, evS_Return, evE_bool, kR_ap, kB_ret, kTu_ret, evB_nil, kB_next, evS_Expr, evE_Meth, evE_Name, E4a_g3, kNm_some, ne_eq, reduceCtorEq, not_false_eq_true, kM1_ap, evEs_cons, fE_ap, E4a_g4, kE1_ap, evEs_nil, kE2_ap, kM2_ap, true_and, if_false]); try (refine retQ ?_; try simp only [List.take_length, and_true, true_and, Bool.not_true]))
          refine ⟨mo_append (lsAt_append lsAt_last), m_append (lsAt_append lsAt_last) (by rw [dCls_len]; lia) ?_⟩
          ((try simp only [kX_ap, kB_next, evB_nil, kTu_next]); try (refine retQ ?_; try simp only [List.take_length, and_true, true_and]))
          rw [set_last2, len1, take_last2, dCls_snoc]
          refine ⟨_, ?_, K ++ [a], .undef, rfl, rfl, ?_, ?_, hch.trans ?_, fun c hc => hs c (.tail _ hc)⟩
          · (repeat' (first | exact weak_nil | exact trivial | assumption | apply weak_drop | apply weak_keep))
          · rw [List.length_append, List.length_singleton]; lia
          · intro c hc
            rcases List.mem_append.mp hc with hc | hc
            · exact hok c hc
            · rw [List.mem_singleton.mp hc]; exact hao
          · exact ⟨fun t => t.2.2, fun t => ⟨hao, hf, t⟩⟩
        · refine ⟨.bool false, _, hpf _ _ _ _ ⟨n, _, _, K, _, false, rfl, lsAt_append lsAt_last, lsn, hn, by lia, by rw [List.length_map]; exact hal, hok, hno, rfl, by simp [hf], rfl⟩, ?_⟩
          ((try simp only [kTB_ap, kNot_ap, Bool.not_false, kIf_ap, evB_cons, evS_Return, evE_bool, kR_ap, kB_ret, kTu_ret, evB_nil, kB_next, evS_Expr, evE_Meth, evE_Name, E4a_g3, kNm_some, ne_eq, reduceCtorEq, not_false_eq_true, kM1_ap, evEs_cons, fE_ap, E4a_g4, kE1_ap, evEs_nil, kE2_ap, kM2_ap, true_and, if_true]); try (refine retQ ?_; try simp only [List.take_length, and_true, true_and, Bool.not_false]))
          rw [hfalse fun t => hf (hch.mp t.2.1).2.1]
          exact ⟨rfl, trivial, Nat.le_refl _, by rw [List.append_assoc, List.take_left]⟩
    · rintro m h ⟨K, l, rfl, rfl, hK, hok, hch, -⟩
      have hT : Takes n C W ↔ W.getLast? = some [] := ⟨fun t => t.2.2, fun t => ⟨hCok, hch.mpr trivial, t⟩⟩
      ((try simp only [kB_next, evB_cons, evS_Return, evE_BoolOp, bo_and, fE_ap, evE_Compare, evE_Call, evEs_cons, evE_Name, E4a_g2, kNm_some, ne_eq, reduceCtorEq, not_false_eq_true, kE1_ap, evEs_nil, kE2_ap, kCa_ap, true_and]); try (refine retQ ?_; try simp only [List.take_length, and_true, true_and]))
      refine cf_lenR (lsAt_append hwi) (by rw [dCls_len]; lia) ?_
      ((try simp only [kC1_ap, evE_int, kC2_ap, cmp_gt, kC3_ap, kBoA_ap, bo_one, fE_ap, evE_Compare, evE_Call, evEs_cons, evE_SubB, evE_Name, E4a_g2, kNm_some, ne_eq, reduceCtorEq, not_false_eq_true, kIx1_ap, evE_Bin, kE1_ap, evEs_nil, kE2_ap, kCa_ap, true_and, kR_ap, kB_ret]); try (refine retQ ?_; try simp only [List.take_length, and_true, true_and]))
      rw [dCls_len]
      (try (refine retQ ?_; try simp only [List.take_length, and_true, true_and]))
      by_cases h0 : 0 < W.length
      · rw [if_pos (by simpa using h0)]
        refine cf_lenR (lsAt_append hwi) (by rw [dCls_len]; lia) ?_
        ((try simp only [kBi1_ap, evE_int, kBi2_ap, bin_sub, kIx2_ap]); try (refine retQ ?_; try simp only [List.take_length, and_true, true_and]))
        rw [dCls_len]
        (try (refine retQ ?_; try simp only [List.take_length, and_true, true_and]))
        refine get_cls (lsAt_append hwi) (by lia) (by lia) (by lia) ?_
        ((try simp only [kV_ap, kE1_ap, evEs_nil, kE2_ap, kCa_ap, cf_lenT, kC1_ap, evE_int, kC2_ap, cmp_eq, kC3_ap, kR_ap, kB_ret]); try (refine retQ ?_; try simp only [List.take_length, and_true, true_and]))
        have hg : W.getLast? = some (W.getD ((W.length : Int) - 1).toNat []) := by
          rw [List.getLast?_eq_getElem?, List.getD_eq_getElem?_getD, show ((W.length : Int) - 1).toNat = W.length - 1 by lia, List.getElem?_eq_getElem (by lia)]
          rfl
        generalize W.getD ((W.length : Int) - 1).toNat [] = u at hg ⊢
        have hu : u ∈ W := List.mem_of_getLast? hg
        ((try simp only [aIs_len]); try (refine retQ ?_; try simp only [List.take_length, and_true, true_and, aIs_len]))
        refine ⟨hW u hu, ?_, trivial, Nat.le_refl _, take_last.symm⟩
        rw [hg] at hT
        have : ((u.length : Int) == 0) = b := by
          rw [Bool.eq_iff_iff, hb, hT]
          simp
        rw [this]
      · rw [if_neg (by simpa using h0)]
        have : W = [] := List.eq_nil_of_length_eq_zero (by lia)
        rw [hfalse fun t => by have := hT.mp t; subst W; cases this]
        exact ⟨rfl, trivial, Nat.le_refl _, take_last.symm⟩
end Mine

/-! P5 -/
namespace Mine
open PySem
noncomputable def E5a (v0 v1 v2 v3 v4 v5 : V) : Loc := [("count", v0), ("clauses", v1), ("rows", v2), ("given", v3), ("handed", v4), ("answer", v5)]
section
variable {v0 v1 v2 v3 v4 v5 w : V}
theorem E5a_g0 : lget (E5a v0 v1 v2 v3 v4 v5) (Str.ofString "count") = some v0 := (rfl)
theorem E5a_g1 : lget (E5a v0 v1 v2 v3 v4 v5) (Str.ofString "clauses") = some v1 := (rfl)
theorem E5a_g2 : lget (E5a v0 v1 v2 v3 v4 v5) (Str.ofString "rows") = some v2 := (rfl)
theorem E5a_g3 : lget (E5a v0 v1 v2 v3 v4 v5) (Str.ofString "given") = some v3 := (rfl)
theorem E5a_s3 : lset (E5a v0 v1 v2 v3 v4 v5) (Str.ofString "given") w = E5a v0 v1 v2 w v4 v5 := (rfl)
theorem E5a_g4 : lget (E5a v0 v1 v2 v3 v4 v5) (Str.ofString "handed") = some v4 := (rfl)
theorem E5a_s4 : lset (E5a v0 v1 v2 v3 v4 v5) (Str.ofString "handed") w = E5a v0 v1 v2 v3 w v5 := (rfl)
theorem E5a_g5 : lget (E5a v0 v1 v2 v3 v4 v5) (Str.ofString "answer") = some v5 := (rfl)
theorem E5a_s5 : lset (E5a v0 v1 v2 v3 v4 v5) (Str.ofString "answer") w = E5a v0 v1 v2 v3 v4 w := (rfl)
theorem E5a_b : lget (E5a v0 v1 v2 v3 v4 v5) (Str.ofString "bool") = none := (rfl)
end
noncomputable def E5b (v0 v1 v2 v3 v4 : V) : Loc := [("cells", v0), ("pot", v1), ("limit", v2), ("digit", v3), ("number", v4)]
section
variable {v0 v1 v2 v3 v4 w : V}
theorem E5b_g0 : lget (E5b v0 v1 v2 v3 v4) (Str.ofString "cells") = some v0 := (rfl)
theorem E5b_g1 : lget (E5b v0 v1 v2 v3 v4) (Str.ofString "pot") = some v1 := (rfl)
theorem E5b_g2 : lget (E5b v0 v1 v2 v3 v4) (Str.ofString "limit") = some v2 := (rfl)
theorem E5b_g3 : lget (E5b v0 v1 v2 v3 v4) (Str.ofString "digit") = some v3 := (rfl)
theorem E5b_s3 : lset (E5b v0 v1 v2 v3 v4) (Str.ofString "digit") w = E5b v0 v1 v2 w v4 := (rfl)
theorem E5b_g4 : lget (E5b v0 v1 v2 v3 v4) (Str.ofString "number") = some v4 := (rfl)
theorem E5b_s4 : lset (E5b v0 v1 v2 v3 v4) (Str.ofString "number") w = E5b v0 v1 v2 v3 w := (rfl)
end

inductive SpLT (vs : List V) (h : Hp) (r : V) (h' : Hp) : Prop
  | mk (n : Nat) (ci wi : Nat) (C W : List (List Int)) (b : Bool) (e0 : vs = [.int n, .ref ci, .ref wi]) (e1 : lsAt h ci = some (dCls C)) (e2 : lsAt h wi = some (dCls W)) (e3 : n ≤ 100) (e4 : C.length + W.length ≤ 1000) (e5 : (∀ c ∈ W, c.length ≤ 1000)) (e6 : r = .int (if b = true then 1 else 0)) (e7 : (b = true ↔ Takes n C W)) (e8 : h' = h) : SpLT vs h r h'

theorem DI_cls {C : List (List Int)} : ∀ d ∈ dCls C, DI d := by
  intro d hd
  obtain ⟨c, _, rfl⟩ := List.mem_map.mp hd
  intro a ha
  obtain ⟨i, _, rfl⟩ := List.mem_map.mp ha
  exact ⟨i, rfl⟩
theorem DI_ints {C : List Int} : ∀ d ∈ dIs C, DI d := by
  intro d hd
  obtain ⟨c, _, rfl⟩ := List.mem_map.mp hd
  trivial
theorem ne_lists {h : Hp} {i j : Nat} {xs : List D} {Q : Bool → Prop} (hi : lsAt h i = some xs) (hj : lsAt h j = some xs) (hd : ∀ d ∈ xs, DI d) (q : Q false) : cmpop .NotEq (.ref i) (.ref j) h Q := by
  show (match lsAt h i, lsAt h j with | some xs, some ys => _ | _, _ => _)
  rw [hi, hj]
  exact ⟨rfl, hd, q⟩

theorem fn_lt (Γ : Gam) (hcr : ∀ vs h r h', SpCR vs h r h' → Γ (Str.ofString "check_refutation") vs h r h') : FnOk Γ 12 SpLT := by
  rintro vs h r h' ⟨n, ci, wi, C, W, b, rfl, hci, hwi, hn, hC, hW, rfl, hb, rfl⟩
  refine ⟨rfl, by simp, ?_⟩
  have e : initLoc (localsAt 12) (paramsAt 12) [.int n, .ref ci, .ref wi] = (E5a (.int n) (.ref ci) (.ref wi) .undef .undef .undef) := by rfl
  rw [e]
  conv in bodyAt 12 => whnf
  ((try simp only [evB_cons, evS_Assign, evE_Call, evEs_cons, fE_ap, evE_Name, E5a_g1, kNm_some, ne_eq, reduceCtorEq, not_false_eq_true, kE1_ap, evEs_nil, kE2_ap, kCa_ap, true_and]); try (refine retQ ?_; try simp only [List.take_length, and_true, true_and]))
  refine cf_list hci (by rw [dCls_len]; lia) ?_
  ((try simp only [kAs_ap, hasL, E5a_g3, Option.isSome_some, E5a_s3, kB_next, evB_cons, evS_Assign, evE_Call, evEs_cons, fE_ap, evE_Name, E5a_g2, kNm_some, ne_eq, reduceCtorEq, not_false_eq_true, kE1_ap, evEs_nil, kE2_ap, kCa_ap, true_and]); try (refine retQ ?_; try simp only [List.take_length, and_true, true_and]))
  refine cf_list (lsAt_append hwi) (by rw [dCls_len]; lia) ?_
  ((try simp only [kAs_ap, hasL, E5a_g4, Option.isSome_some, E5a_s4, kB_next, evB_cons, evS_Assign, evE_Call, evEs_cons, fE_ap, evE_Name, E5a_g0, kNm_some, ne_eq, reduceCtorEq, not_false_eq_true, kE1_ap, E5a_g1, E5a_g2, evEs_nil, kE2_ap, kCa_ap, true_and]); try (refine retQ ?_; try simp only [List.take_length, and_true, true_and]))
  refine ⟨.bool b, _, hcr _ _ _ _ ⟨n, ci, wi, C, W, b, rfl, lsAt_append (lsAt_append hci), lsAt_append (lsAt_append hwi), hn, hC, hW, rfl, hb, rfl⟩, ?_⟩
  ((try simp only [kAs_ap, hasL, E5a_g5, Option.isSome_some, E5a_s5, kB_next, evB_cons, evS_If, evT_BoolOp, all_or, fT_ap, evT_Not, evT_Call, evE_Call, evEs_cons, fE_ap, evE_Name, kNm_some, ne_eq, reduceCtorEq, not_false_eq_true, kE1_ap, E5a_b, kNm_none, tyOf_bool, evEs_nil, kE2_ap, kCa_ap, cf_isB, kTB_ap, kNot_ap, Bool.not_true, kOr_ap, Bool.false_eq_true, kIf_ap, evS_Return, evE_Unary, evE_int, kUn_ap, unop_neg, kV_ap, kR_ap, kB_ret, evB_nil, evE_IfExp, evT_Name, kIfE_ap, true_and, if_true, evT_Compare, E5a_g1, kTC1_ap, E5a_g3, kTC2_ap, if_false]); try (refine retQ ?_; try simp only [List.take_length, and_true, true_and, Bool.not_true]))
  refine ne_lists (lsAt_append (lsAt_append hci)) (lsAt_append lsAt_last) DI_cls ?_
  ((try simp only [kTC3_ap, kOr_ap, Bool.false_eq_true, kIf_ap, evB_cons, evS_Return, evE_Unary, evE_int, kUn_ap, unop_neg, kV_ap, kR_ap, kB_ret, evB_nil, kB_next, evE_IfExp, evT_Name, evE_Name, E5a_g5, kNm_some, ne_eq, reduceCtorEq, not_false_eq_true, kTB_ap, kIfE_ap, true_and, if_true, all_or, fT_ap, evT_Compare, E5a_g2, kTC1_ap, E5a_g4, kTC2_ap, if_false]); try (refine retQ ?_; try simp only [List.take_length, and_true, true_and]))
  refine ne_lists (lsAt_append (lsAt_append hwi)) lsAt_last DI_cls ?_
  ((try simp only [kTC3_ap, kOr_ap, Bool.false_eq_true, kIf_ap, evB_cons, evS_Return, evE_Unary, evE_int, kUn_ap, unop_neg, kV_ap, kR_ap, kB_ret, evB_nil, kB_next, evE_IfExp, evT_Name, evE_Name, E5a_g5, kNm_some, ne_eq, reduceCtorEq, not_false_eq_true, kTB_ap, kIfE_ap, true_and, if_true, all_or_nil, if_false]); try (refine retQ ?_; try simp only [List.take_length, and_true, true_and]))
  cases b with
  | true => 
    ((try simp only [if_true]); try (refine retQ ?_; try simp only [List.take_length, and_true, true_and]))
    exact ⟨trivial, Nat.le_refl _, by rw [List.append_assoc, List.take_left]⟩
  | false => 
    ((try simp only [Bool.false_eq_true, if_false]); try (refine retQ ?_; try simp only [List.take_length, and_true, true_and]))
    exact ⟨trivial, Nat.le_refl _, by rw [List.append_assoc, List.take_left]⟩

/-- _law_pick -/
noncomputable def pickF (cells : List Int) (a b c lim : Int) : Int × List Int :=
  if 0 < b then (b.fmod lim, [a, b.fdiv lim, c])
  else if a < cells.length then
    (let k := cells.getD a.toNat 0
     if 10 ^ 18 ≤ k then (k.fmod lim, [a + 1, k.fdiv lim, c]) else (k.fmod lim, [a + 1, b, (c * 37 + k).fmod 1009]))
  else (((c * 13 + 7).fmod 1009).fmod lim, [a, b, (c * 13 + 7).fmod 1009])
inductive SpLP (vs : List V) (h : Hp) (r : V) (h' : Hp) : Prop
  | mk (ci pi : Nat) (cells : List Int) (a b c lim : Int) (e0 : vs = [.ref ci, .ref pi, .int lim]) (e1 : ci ≠ pi) (e2 : lsAt h ci = some (dIs cells)) (e3 : lsAt h pi = some (dIs [a, b, c])) (e4 : cells.length ≤ 1000) (e5 : 0 ≤ a) (e6 : 0 ≤ c) (e7 : c < 1009) (e8 : 0 < lim) (e9 : lim ≤ 1000) (e10 : r = .int (pickF cells a b c lim).1) (e11 : h' = h.set pi (.list (dIs (pickF cells a b c lim).2))) : SpLP vs h r h'

theorem fn_lp (Γ : Gam) : FnOk Γ 7 SpLP := by
  rintro vs h r h' ⟨ci, pi, cells, a, b, c, lim, rfl, hne, hci, hpi, hl, ha, hc, hc2, hlim, hlim2, rfl, rfl⟩
  refine ⟨rfl, by simp, ?_⟩
  have e : initLoc (localsAt 7) (paramsAt 7) [.ref ci, .ref pi, .int lim] = (E5b (.ref ci) (.ref pi) (.int lim) .undef .undef) := by rfl
  rw [e]
  conv in bodyAt 7 => whnf
  have hbp := lsAt_lt hpi
  ((try simp only [evB_cons, evS_If, evT_Compare, evE_SubC, evE_Name, E5b_g1, kNm_some, ne_eq, reduceCtorEq, not_false_eq_true, kIx1_ap, evE_int, kIx2_ap, true_and]); try (refine retQ ?_; try simp only [List.take_length, and_true, true_and]))
  have fin : ∀ p : Int × List Int, p = pickF cells a b c lim → ∀ h4 : Hp, h4 = h.set pi (.list (dIs p.2)) → (Fl.ret (V.int p.1) = Fl.ret (V.int (pickF cells a b c lim).fst) ∧
                      V.below (List.set h pi (O.list (dIs (pickF cells a b c lim).snd))).length (V.int (pickF cells a b c lim).fst) ∧
                        List.length h ≤ (List.set h pi (O.list (dIs (pickF cells a b c lim).snd))).length ∧
                          List.set h pi (O.list (dIs (pickF cells a b c lim).snd)) = List.take (List.set h pi (O.list (dIs (pickF cells a b c lim).snd))).length h4) := by
    rintro p rfl h4 rfl
    exact ⟨rfl, trivial, by rw [List.length_set]; exact Nat.le_refl _, by rw [List.take_length]⟩
  have l0 : lim ≠ 0 := by lia
  have l1 : lim.natAbs < 1073741824 := by lia
  have sm : smallI c := by show c.natAbs < 2 ^ 256; have : (2:Nat)^256 = 115792089237316195423570985008687907853269984665640564039457584007913129639936 := by decide
                           lia
  refine get3_1 hpi ?_
  ((try simp only [kV_ap, kTC1_ap, evE_int, kTC2_ap, cmp_gt, kTC3_ap, kIf_ap, evB_cons, evS_Assign, evE_Bin, evE_Call, evEs_cons, fE_ap, evE_SubC, evE_Name, E5b_g1, kNm_some, ne_eq, reduceCtorEq, not_false_eq_true, kIx1_ap, kIx2_ap, true_and, evB_nil, kB_next, evS_If, evT_Compare]); try (refine retQ ?_; try simp only [List.take_length, and_true, true_and]))
  generalize hP : pickF cells a b c lim = P at fin ⊢
  unfold pickF at hP
  by_cases hb : 0 < b
  · rw [if_pos (by simpa using hb)]
    rw [if_pos hb] at hP
    refine get3_1 hpi ?_
    ((try simp only [kV_ap, kE1_ap, evEs_nil, kE2_ap, kCa_ap, cf_int, kBi1_ap, evE_Name, E5b_g2, kNm_some, ne_eq, reduceCtorEq, not_false_eq_true, kBi2_ap, bin_mod, kAs_ap, hasL, E5b_g3, Option.isSome_some, E5b_s3, kB_next, evB_cons, evS_AssignSub, evE_Bin, evE_Call, evEs_cons, fE_ap, evE_SubC, E5b_g1, kIx1_ap, evE_int, kIx2_ap, true_and]); try (refine retQ ?_; try simp only [List.take_length, and_true, true_and]))
    refine ⟨l0, ?_⟩
    (try (refine retQ ?_; try simp only [List.take_length, and_true, true_and]))
    refine get3_1 hpi ?_
    ((try simp only [kV_ap, kE1_ap, evEs_nil, kE2_ap, kCa_ap, cf_int, kBi1_ap, evE_Name, E5b_g2, kNm_some, ne_eq, reduceCtorEq, not_false_eq_true, kBi2_ap, bin_div, kS1_ap, E5b_g1, kS2_ap, evE_int, kS3_ap, true_and]); try (refine retQ ?_; try simp only [List.take_length, and_true, true_and]))
    refine ⟨l0, l1, ?_⟩
    (try (refine retQ ?_; try simp only [List.take_length, and_true, true_and]))
    refine set3_1 hpi ?_
    ((try simp only [kN_ap, kB_next, evB_cons, evS_Return, evE_Name, E5b_g3, kNm_some, ne_eq, reduceCtorEq, not_false_eq_true, kR_ap, kB_ret, true_and]); try (refine retQ ?_; try simp only [List.take_length, and_true, true_and]))
    exact fin _ hP _ rfl
  · rw [if_neg (by simpa using hb)]
    rw [if_neg hb] at hP
    refine get3_0 hpi ?_
    ((try simp only [kV_ap, kTC1_ap, evE_Call, evEs_cons, fE_ap, evE_Name, E5b_g0, kNm_some, ne_eq, reduceCtorEq, not_false_eq_true, kE1_ap, evEs_nil, kE2_ap, kCa_ap, true_and]); try (refine retQ ?_; try simp only [List.take_length, and_true, true_and]))
    refine cf_lenR hci (by rw [dIs_len]; lia) ?_
    ((try simp only [kTC2_ap, cmp_lt, kTC3_ap, kIf_ap, evB_cons, evS_Assign, evE_SubS, evE_Name, E5b_g0, kNm_some, ne_eq, reduceCtorEq, not_false_eq_true, kIx1_ap, evE_SubC, E5b_g1, evE_int, kIx2_ap, true_and, evB_nil, kB_next, evS_AssignSub, evE_Bin, evE_Call, evEs_cons, fE_ap]); try (refine retQ ?_; try simp only [List.take_length, and_true, true_and]))
    rw [dIs_len]
    (try (refine retQ ?_; try simp only [List.take_length, and_true, true_and]))
    by_cases hal : a < (cells.length : Int)
    · rw [if_pos (by simpa using hal)]
      rw [if_pos hal] at hP
      refine get3_0 hpi ?_
      ((try simp only [kV_ap, kIx2_ap]); try (refine retQ ?_; try simp only [List.take_length, and_true, true_and]))
      refine get_ints hci ha (by lia) (by lia) ?_
      ((try simp only [kV_ap, kAs_ap, hasL, E5b_g4, Option.isSome_some, E5b_s4, kB_next, evB_cons, evS_AugSub, evE_Name, E5b_g1, kNm_some, ne_eq, reduceCtorEq, not_false_eq_true, kG1_ap, evE_int, kG2_ap, true_and]); try (refine retQ ?_; try simp only [List.take_length, and_true, true_and]))
      refine get3_0 hpi ?_
      ((try simp only [kG3_ap, evE_int, kG4_ap, in_add, kG5_ap]); try (refine retQ ?_; try simp only [List.take_length, and_true, true_and]))
      refine set3_0 hpi ?_
      ((try simp only [kN_ap, kB_next, evB_cons, evS_If, evT_Compare, evE_Name, E5b_g4, kNm_some, ne_eq, reduceCtorEq, not_false_eq_true, kTC1_ap, evE_Bin, evE_int, kBi1_ap, kBi2_ap, bin_pow, kTC2_ap, cmp_ge, kTC3_ap, kIf_ap, evS_AssignSub, evE_Call, evEs_cons, fE_ap, kE1_ap, evEs_nil, kE2_ap, kCa_ap, cf_int, E5b_g2, bin_div, kS1_ap, E5b_g1, kS2_ap, kS3_ap, true_and, evE_SubC, kIx1_ap, kIx2_ap]); try (refine retQ ?_; try simp only [List.take_length, and_true, true_and]))
      have h2 := lsAt_set (xs := dIs [a + 1, b, c]) hbp
      have ss : ∀ o : O, List.set (List.set h pi (.list (dIs [a + 1, b, c]))) pi o = List.set h pi o := fun o => List.set_set ..
      refine ⟨by decide, by decide, by decide, ?_⟩
      (try (refine retQ ?_; try simp only [List.take_length, and_true, true_and]))
      by_cases hk : 10 ^ 18 ≤ cells.getD a.toNat 0
      · rw [if_pos (by simpa using hk)]
        refine ⟨l0, l1, ?_⟩
        (try (refine retQ ?_; try simp only [List.take_length, and_true, true_and]))
        refine set3_1 h2 ?_
        ((try simp only [kN_ap, kB_next, evB_nil, evB_cons, evS_Return, evE_Bin, evE_Call, evEs_cons, fE_ap, evE_Name, E5b_g4, kNm_some, ne_eq, reduceCtorEq, not_false_eq_true, kE1_ap, evEs_nil, kE2_ap, kCa_ap, cf_int, kBi1_ap, E5b_g2, kBi2_ap, bin_mod, kR_ap, kB_ret, true_and]); try (refine retQ ?_; try simp only [List.take_length, and_true, true_and]))
        refine ⟨l0, ?_⟩
        (try (refine retQ ?_; try simp only [List.take_length, and_true, true_and]))
        simp only [hk, if_true] at hP
        exact fin _ hP _ (ss _)
      · rw [if_neg (by simpa using hk)]
        refine get3_2 h2 ?_
        ((try simp only [kV_ap, kBi1_ap, evE_int, kBi2_ap, bin_mul, evE_Name, E5b_g4, kNm_some, ne_eq, reduceCtorEq, not_false_eq_true, bin_add, kE1_ap, evEs_nil, kE2_ap, kCa_ap, cf_int, bin_mod, kS1_ap, E5b_g1, kS2_ap, kS3_ap, true_and]); try (refine retQ ?_; try simp only [List.take_length, and_true, true_and]))
        refine ⟨sm, (show smallI 37 by unfold smallI; decide), ?_⟩
        (try (refine retQ ?_; try simp only [List.take_length, and_true, true_and]))
        refine ⟨by decide, ?_⟩
        (try (refine retQ ?_; try simp only [List.take_length, and_true, true_and]))
        refine set3_2 h2 ?_
        ((try simp only [kN_ap, kB_next, evB_nil, evB_cons, evS_Return, evE_Bin, evE_Call, evEs_cons, fE_ap, evE_Name, E5b_g4, kNm_some, ne_eq, reduceCtorEq, not_false_eq_true, kE1_ap, evEs_nil, kE2_ap, kCa_ap, cf_int, kBi1_ap, E5b_g2, kBi2_ap, bin_mod, kR_ap, kB_ret, true_and]); try (refine retQ ?_; try simp only [List.take_length, and_true, true_and]))
        refine ⟨l0, ?_⟩
        (try (refine retQ ?_; try simp only [List.take_length, and_true, true_and]))
        simp only [hk, if_false] at hP
        exact fin _ hP _ (ss _)
    · rw [if_neg (by simpa using hal)]
      rw [if_neg hal] at hP
      refine get3_2 hpi ?_
      ((try simp only [kV_ap, kBi1_ap, evE_int, kBi2_ap, bin_mul, bin_add, kE1_ap, evEs_nil, kE2_ap, kCa_ap, cf_int, bin_mod, ne_eq, kS1_ap, evE_Name, E5b_g1, kNm_some, reduceCtorEq, not_false_eq_true, kS2_ap, kS3_ap, true_and]); try (refine retQ ?_; try simp only [List.take_length, and_true, true_and]))
      refine ⟨sm, (show smallI 13 by unfold smallI; decide), ?_⟩
      (try (refine retQ ?_; try simp only [List.take_length, and_true, true_and]))
      refine ⟨by decide, ?_⟩
      (try (refine retQ ?_; try simp only [List.take_length, and_true, true_and]))
      refine set3_2 hpi ?_
      ((try simp only [kN_ap, kB_next, evB_cons, evS_Return, evE_Bin, evE_Call, evEs_cons, fE_ap, evE_SubC, evE_Name, E5b_g1, kNm_some, ne_eq, reduceCtorEq, not_false_eq_true, kIx1_ap, evE_int, kIx2_ap, true_and]); try (refine retQ ?_; try simp only [List.take_length, and_true, true_and]))
      refine get3_2 (lsAt_set hbp) ?_
      ((try simp only [kV_ap, kE1_ap, evEs_nil, kE2_ap, kCa_ap, cf_int, kBi1_ap, evE_Name, E5b_g2, kNm_some, ne_eq, reduceCtorEq, not_false_eq_true, kBi2_ap, bin_mod, kR_ap, kB_ret, true_and]); try (refine retQ ?_; try simp only [List.take_length, and_true, true_and]))
      refine ⟨l0, ?_⟩
      (try (refine retQ ?_; try simp only [List.take_length, and_true, true_and]))
      exact fin _ hP _ rfl
end Mine

/-! P6 -/
namespace Mine
open PySem
noncomputable def E6a (v0 v1 v2 v3 : V) : Loc := [("i", v0), ("n", v1), ("column", v2), ("j", v3)]
section
variable {v0 v1 v2 v3 w : V}
theorem E6a_g0 : lget (E6a v0 v1 v2 v3) (Str.ofString "i") = some v0 := (rfl)
theorem E6a_g1 : lget (E6a v0 v1 v2 v3) (Str.ofString "n") = some v1 := (rfl)
theorem E6a_g2 : lget (E6a v0 v1 v2 v3) (Str.ofString "column") = some v2 := (rfl)
theorem E6a_s2 : lset (E6a v0 v1 v2 v3) (Str.ofString "column") w = E6a v0 v1 w v3 := (rfl)
theorem E6a_g3 : lget (E6a v0 v1 v2 v3) (Str.ofString "j") = some v3 := (rfl)
theorem E6a_s3 : lset (E6a v0 v1 v2 v3) (Str.ofString "j") w = E6a v0 v1 v2 w := (rfl)
end
noncomputable def E6b (v0 v1 v2 v3 v4 v5 v6 : V) : Loc := [("count", v0), ("clauses", v1), ("full", v2), ("left", v3), ("clause", v4), ("column", v5), ("literal", v6)]
section
variable {v0 v1 v2 v3 v4 v5 v6 w : V}
theorem E6b_g0 : lget (E6b v0 v1 v2 v3 v4 v5 v6) (Str.ofString "count") = some v0 := (rfl)
theorem E6b_g1 : lget (E6b v0 v1 v2 v3 v4 v5 v6) (Str.ofString "clauses") = some v1 := (rfl)
theorem E6b_g2 : lget (E6b v0 v1 v2 v3 v4 v5 v6) (Str.ofString "full") = some v2 := (rfl)
theorem E6b_s2 : lset (E6b v0 v1 v2 v3 v4 v5 v6) (Str.ofString "full") w = E6b v0 v1 w v3 v4 v5 v6 := (rfl)
theorem E6b_g3 : lget (E6b v0 v1 v2 v3 v4 v5 v6) (Str.ofString "left") = some v3 := (rfl)
theorem E6b_s3 : lset (E6b v0 v1 v2 v3 v4 v5 v6) (Str.ofString "left") w = E6b v0 v1 v2 w v4 v5 v6 := (rfl)
theorem E6b_g4 : lget (E6b v0 v1 v2 v3 v4 v5 v6) (Str.ofString "clause") = some v4 := (rfl)
theorem E6b_s4 : lset (E6b v0 v1 v2 v3 v4 v5 v6) (Str.ofString "clause") w = E6b v0 v1 v2 v3 w v5 v6 := (rfl)
theorem E6b_g5 : lget (E6b v0 v1 v2 v3 v4 v5 v6) (Str.ofString "column") = some v5 := (rfl)
theorem E6b_s5 : lset (E6b v0 v1 v2 v3 v4 v5 v6) (Str.ofString "column") w = E6b v0 v1 v2 v3 v4 w v6 := (rfl)
theorem E6b_g6 : lget (E6b v0 v1 v2 v3 v4 v5 v6) (Str.ofString "literal") = some v6 := (rfl)
theorem E6b_s6 : lset (E6b v0 v1 v2 v3 v4 v5 v6) (Str.ofString "literal") w = E6b v0 v1 v2 v3 v4 v5 w := (rfl)
end

noncomputable def colT : Nat → Nat → Int
  | 0, 1 => 2
  | 0, 2 => 10
  | 1, 2 => 12
  | 0, 3 => 170
  | 1, 3 => 204
  | 2, 3 => 240
  | _, _ => 0
inductive SpLC (vs : List V) (h : Hp) (r : V) (h' : Hp) : Prop
  | mk (i n : Nat) (e0 : vs = [.int i, .int n]) (e1 : i < n) (e2 : n ≤ 3) (e3 : r = .int (colT i n)) (e4 : h' = h) : SpLC vs h r h'
noncomputable def colGo : List Int → Int → Int
  | [], c => c
  | j :: r, c => colGo r (Builtin.bitOr c (c * 2 ^ ((1 : Int) * 2 ^ j.toNat).toNat))
noncomputable def colOk : List Int → Int → Bool
  | [], _ => true
  | j :: r, c => decide (0 ≤ j ∧ j ≤ 9 ∧ 0 ≤ 1 * (2:Int) ^ j.toNat ∧ 1 * (2:Int) ^ j.toNat ≤ 1000 ∧ c.natAbs < 2 ^ 64) && colOk r (Builtin.bitOr c (c * 2 ^ ((1 : Int) * 2 ^ j.toNat).toNat))

theorem fn_lc (Γ : Gam) : FnOk Γ 8 SpLC := by
  rintro vs h r h' ⟨i, n, rfl, hi, hn, rfl, rfl⟩
  refine ⟨rfl, by simp, ?_⟩
  have e : initLoc (localsAt 8) (paramsAt 8) [.int i, .int n] = (E6a (.int i) (.int n) .undef .undef) := by rfl
  rw [e]
  conv in bodyAt 8 => whnf
  have main : ∀ c0 : Int, 0 ≤ (1 : Int) * 2 ^ (i : Int).toNat → (1 : Int) * 2 ^ (i : Int).toNat ≤ 1000 → ((1 : Int) * 2 ^ ((1 : Int) * 2 ^ (i : Int).toNat).toNat - 1).natAbs < 2 ^ 64 →
      c0 = ((1 : Int) * 2 ^ ((1 : Int) * 2 ^ (i : Int).toNat).toNat - 1) * 2 ^ ((1 : Int) * 2 ^ (i : Int).toNat).toNat → colGo (rangeList ((i : Int) + 1) n 1) c0 = colT i n → colOk (rangeList ((i : Int) + 1) n 1) c0 = true →
      evB Γ 60 ((bodyAt 8)) (E6a (.int i) (.int n) .undef .undef) h' fun fl x h2 =>
        fl = Fl.ret (V.int (colT i n)) ∧ V.below (List.length h') (V.int (colT i n)) ∧ List.length h' ≤ List.length h' ∧ h' = List.take (List.length h') h2 := by
    intro c0 a1 a2 a3 hc0 hgo hok
    conv in bodyAt 8 => whnf
    ((try simp only [evB_cons, evS_Assign, evE_Bin, evE_int, kBi1_ap, evE_Name, E6a_g0, kNm_some, ne_eq, reduceCtorEq, not_false_eq_true, kBi2_ap, bin_shl, bin_sub, kAs_ap, hasL, E6a_g2, Option.isSome_some, E6a_s2, kB_next, evS_ForCall, evE_Call, evEs_cons, fE_ap, bin_add, kE1_ap, E6a_g1, evEs_nil, kE2_ap, kCa_ap, cf_range2, kFor_ap, true_and]); try (refine retQ ?_; try simp only [List.take_length, and_true, true_and]))
    refine ⟨by lia, by lia, by decide, a1, a2, by decide, by lia, by lia, by decide, a1, a2, a3, ?_⟩
    (try (refine retQ ?_; try simp only [List.take_length, and_true, true_and]))
    rw [← hc0]
    refine forV_range (by lia) (by lia) (fun r m h => ∃ c j, m = (E6a (.int i) (.int n) (.int c) j) ∧ h = h' ∧ colGo r c = colT i n ∧ colOk r c = true) ⟨_, _, rfl, rfl, hgo, hok⟩ ?_ ?_
    · rintro a r m _ ⟨c, j, rfl, rfl, h1, h2⟩
      unfold colOk at h2
      rw [Bool.and_eq_true, decide_eq_true_eq] at h2
      obtain ⟨⟨b1, b2, b3, b4, b5⟩, h2⟩ := h2
      unfold colGo at h1
      ((try simp only [hasL, E6a_g3, Option.isSome_some, E6a_s3, evB_cons, evS_Aug, E6a_g2, kA0_ap, ne_eq, reduceCtorEq, not_false_eq_true, evE_Bin, evE_Name, kNm_some, kBi1_ap, evE_int, kBi2_ap, bin_shl, kA1_ap, in_or, kA2_ap, E6a_s2, kB_next, evB_nil, kTu_next, List.take_length, true_and]); try (refine retQ ?_; try simp only [List.take_length, and_true, true_and]))
      refine ⟨b1, by lia, by decide, b3, b4, b5, _, ?_, _, .undef, rfl, h1, h2⟩
      (repeat' (first | exact weak_nil | exact trivial | assumption | apply weak_drop | apply weak_keep))
    · rintro m _ ⟨c, j, rfl, rfl, h1, -⟩
      ((try simp only [kB_next, evB_cons, evS_Return, evE_Name, E6a_g2, kNm_some, ne_eq, reduceCtorEq, not_false_eq_true, kR_ap, kB_ret, List.take_length, and_true, true_and]); try (refine retQ ?_; try simp only [List.take_length, and_true, true_and]))
      unfold colGo at h1
      rw [h1]
      exact ⟨rfl, trivial, Nat.le_refl _⟩
  have cs : (i = 0 ∧ n = 1) ∨ (i = 0 ∧ n = 2) ∨ (i = 1 ∧ n = 2) ∨ (i = 0 ∧ n = 3) ∨ (i = 1 ∧ n = 3) ∨ (i = 2 ∧ n = 3) := (by decide : ∀ n < 4, ∀ i < n, (i = 0 ∧ n = 1) ∨ (i = 0 ∧ n = 2) ∨ (i = 1 ∧ n = 2) ∨ (i = 0 ∧ n = 3) ∨ (i = 1 ∧ n = 3) ∨ (i = 2 ∧ n = 3)) n (by lia) i (by lia)
  clear e hi hn
  conv at main in bodyAt 8 => whnf
  rcases cs with ⟨rfl, rfl⟩ | ⟨rfl, rfl⟩ | ⟨rfl, rfl⟩ | ⟨rfl, rfl⟩ | ⟨rfl, rfl⟩ | ⟨rfl, rfl⟩ <;> exact main _ (by decide) (by decide) (by decide) rfl (by decide) (by decide)

theorem bitAnd_nat (x y : Nat) : Builtin.bitAnd (x : Int) (y : Int) = ((x &&& y : Nat) : Int) := by
  unfold Builtin.bitAnd
  rw [decide_eq_true (Int.natCast_nonneg x), decide_eq_true (Int.natCast_nonneg y)]
  rfl
theorem bitOr_nat (x y : Nat) : Builtin.bitOr (x : Int) (y : Int) = ((x ||| y : Nat) : Int) := by
  have n1 : ∀ z : Int, Builtin.bitNot z = -z - 1 := fun z => rfl
  unfold Builtin.bitOr Builtin.bitAnd
  simp only [n1]
  rw [decide_eq_false (by lia : ¬ 0 ≤ -(x : Int) - 1), decide_eq_false (by lia : ¬ 0 ≤ -(y : Int) - 1)]
  simp only []
  rw [show (-(-(x : Int) - 1) - 1).toNat = x by lia, show (-(-(y : Int) - 1) - 1).toNat = y by lia]
  lia

noncomputable def satm (m : Nat) (l : Int) : Bool := m.testBit (l.natAbs - 1) == decide (0 < l)
noncomputable def satc (m : Nat) (c : List Int) : Bool := c.any (satm m)

theorem lit_col {n : Nat} {l : Int} (hn : n ≤ 3) (h : OkL n l) : ∃ y : Nat, y < 2 ^ 2 ^ n ∧ Builtin.bitXor (colT (l.natAbs - 1) n) (if decide (0 < l) = true then 0 else 1 * 2 ^ ((1 : Int) * 2 ^ ((n : Int)).toNat).toNat - 1) = (y : Int) ∧ ∀ m < 2 ^ n, y.testBit m = satm m l := by
  obtain ⟨h0, h1⟩ := h
  have : ∀ (n : Nat) (l : Int) (y : Nat), (decide (y < 2 ^ 2 ^ n) && decide (Builtin.bitXor (colT (l.natAbs - 1) n) (if decide (0 < l) = true then 0 else 1 * 2 ^ ((1 : Int) * 2 ^ ((n : Int)).toNat).toNat - 1) = (y : Int)) && (List.range (2 ^ n)).all fun m => y.testBit m == satm m l) = true →
      ∃ y : Nat, y < 2 ^ 2 ^ n ∧ Builtin.bitXor (colT (l.natAbs - 1) n) (if decide (0 < l) = true then 0 else 1 * 2 ^ ((1 : Int) * 2 ^ ((n : Int)).toNat).toNat - 1) = (y : Int) ∧ ∀ m < 2 ^ n, y.testBit m = satm m l := by
    intro n l y q
    rw [Bool.and_eq_true, Bool.and_eq_true, decide_eq_true_eq, decide_eq_true_eq, List.all_eq_true] at q
    exact ⟨y, q.1.1, q.1.2, fun m hm => by simpa using q.2 m (List.mem_range.mpr hm)⟩
  have c3 : n = 1 ∨ n = 2 ∨ n = 3 := by lia
  rcases c3 with rfl | rfl | rfl
  · rcases (show l = 1 ∨ l = -1 by lia) with rfl | rfl
    · exact this _ _ 2 (by decide)
    · exact this _ _ 1 (by decide)
  · rcases (show (l = 1 ∨ l = -1) ∨ l = 2 ∨ l = -2 by lia) with (rfl | rfl) | rfl | rfl
    · exact this _ _ 10 (by decide)
    · exact this _ _ 5 (by decide)
    · exact this _ _ 12 (by decide)
    · exact this _ _ 3 (by decide)
  · rcases (show l.natAbs = 1 ∨ l.natAbs = 2 ∨ l.natAbs = 3 by lia) with h | h | h
    · rcases (show l = 1 ∨ l = -1 by lia) with rfl | rfl
      · exact this _ _ 170 (by decide)
      · exact this _ _ 85 (by decide)
    · rcases (show l = 2 ∨ l = -2 by lia) with rfl | rfl
      · exact this _ _ 204 (by decide)
      · exact this _ _ 51 (by decide)
    · rcases (show l = 3 ∨ l = -3 by lia) with rfl | rfl
      · exact this _ _ 240 (by decide)
      · exact this _ _ 15 (by decide)
noncomputable def Unsat (n : Nat) (C : List (List Int)) : Prop := ∀ m < 2 ^ n, C.all (satc m) = false
inductive SpLI (vs : List V) (h : Hp) (r : V) (h' : Hp) : Prop
  | mk (n ci : Nat) (C : List (List Int)) (b : Bool) (e0 : vs = [.int n, .ref ci]) (e1 : n ≤ 3) (e2 : lsAt h ci = some (dCls C)) (e3 : C.length ≤ 1000) (e4 : (∀ c ∈ C, OkC n c)) (e5 : r = .bool b) (e6 : (b = true ↔ Unsat n C)) (e7 : h' = h) : SpLI vs h r h'

inductive I6b (n ci : Nat) (C : List (List Int)) (F : Int) (h' : Hp) (r : List (List Int)) (m : Loc) (h : Hp) : Prop
  | mk (y : Nat) (c col l : V) (e0 : m = (E6b (.int n) (.ref ci) (.int F) (.int y) c col l)) (e1 : h = h') (e2 : y < 2 ^ 2 ^ n) (e3 : (∀ m < 2 ^ n, (y.testBit m && r.all (satc m)) = C.all (satc m))) (e4 : ∀ c ∈ r, c ∈ C) : I6b n ci C F h' r m h
inductive I6c (n ci : Nat) (F : Int) (y : Nat) (a : List Int) (h' : Hp) (r2 : List Int) (m : Loc) (h : Hp) : Prop
  | mk (x : Nat) (l : V) (e0 : m = (E6b (.int n) (.ref ci) (.int F) (.int y) (.d (.t (aIs a))) (.int x) l)) (e1 : h = h') (e2 : x < 2 ^ 2 ^ n) (e3 : (∀ m < 2 ^ n, (x.testBit m || r2.any (satm m)) = satc m a)) (e4 : ∀ l ∈ r2, OkL n l) : I6c n ci F y a h' r2 m h
theorem fn_li (Γ : Gam) (hlc : ∀ vs h r h', SpLC vs h r h' → Γ (Str.ofString "_law_column") vs h r h') : FnOk Γ 9 SpLI := by
  rintro vs h r h' ⟨n, ci, C, b, rfl, hn, hci, hC, hok, rfl, hb, rfl⟩
  refine ⟨rfl, by simp, ?_⟩
  have e : initLoc (localsAt 9) (paramsAt 9) [.int n, .ref ci] = (E6b (.int n) (.ref ci) .undef .undef .undef .undef .undef) := by rfl
  rw [e]
  conv in bodyAt 9 => whnf
  have hbc := lsAt_lt hci
  have p1 : (1 : Int) * 2 ^ ((n : Int)).toNat = ((2 ^ n : Nat) : Int) := by rw [Int.toNat_natCast]; simp
  have p2 : (2 : Nat) ^ n ≤ 8 := (Nat.pow_le_pow_right (by decide) hn)
  have p3 : (1 : Int) * 2 ^ ((1 : Int) * 2 ^ ((n : Int)).toNat).toNat - 1 = ((2 ^ 2 ^ n - 1 : Nat) : Int) := by
    rw [p1, Int.toNat_natCast]
    have : 0 < (2 : Nat) ^ 2 ^ n := Nat.pow_pos (by decide)
    rw [Int.natCast_sub (by lia)]; simp
  have p4 : 0 ≤ (1 : Int) * 2 ^ ((n : Int)).toNat := by rw [p1]; exact Int.natCast_nonneg _
  have p5 : (1 : Int) * 2 ^ ((n : Int)).toNat ≤ 1000 := by rw [p1]; exact Int.le_trans (Int.ofNat_le.mpr p2) (by decide)
  ((try simp only [evB_cons, evS_Assign, evE_Bin, evE_int, kBi1_ap, evE_Name, E6b_g0, kNm_some, ne_eq, reduceCtorEq, not_false_eq_true, kBi2_ap, bin_shl, bin_sub, kAs_ap, hasL, E6b_g2, Option.isSome_some, E6b_s2, kB_next, E6b_g3, E6b_s3, evS_ForAssign, E6b_g1, kFor_ap, true_and]); try (refine retQ ?_; try simp only [List.take_length, and_true, true_and]))
  refine ⟨by lia, by lia, by decide, p4, p5, by decide, ?_⟩
  (try (refine retQ ?_; try simp only [List.take_length, and_true, true_and]))
  generalize hF : (1 : Int) * 2 ^ ((1 : Int) * 2 ^ ((n : Int)).toNat).toNat - 1 = F
  refine forV_cls hci (by lia) (I6b n ci C F h') ?_ ?_ ?_ ?_
  · refine ⟨2 ^ 2 ^ n - 1, _, _, _, by rw [← hF, p3], rfl, ?_, fun m hm => ?_, fun c hc => hc⟩
    · have : 0 < (2 : Nat) ^ 2 ^ n := Nat.pow_pos (by decide)
      lia
    · rw [Nat.testBit_two_pow_sub_one, decide_eq_true hm, Bool.true_and]
  · rintro r m h ⟨y, c, col, l, rfl, rfl, -⟩
    exact hci
  · rintro a r m h' ⟨y, c, col, l, rfl, rfl, hy, hr, hs⟩
    have ha := hok a (hs a (.head _))
    ((try simp only [hasL, E6b_g4, Option.isSome_some, E6b_s4, evB_cons, evS_Assign, evE_int, kAs_ap, E6b_g5, E6b_s5, kB_next, evS_ForAug, evE_Name, kNm_some, ne_eq, reduceCtorEq, not_false_eq_true, kFor_ap, true_and]); try (refine retQ ?_; try simp only [List.take_length, and_true, true_and]))
    refine forV_tup (I6c n ci F y a h') ?_ ?_ ?_
    · refine ⟨0, _, rfl, rfl, Nat.pow_pos (by decide), fun m hm => ?_, ha⟩
      rw [Nat.zero_testBit, Bool.false_or]; rfl
    · rintro k r2 m h' ⟨x, l, rfl, rfl, hx, hr2, hs2⟩
      have hk := hs2 k (.head _)
      have hk1 := hk.1
      have hk2 := hk.2
      ((try simp only [hasL, E6b_g6, Option.isSome_some, E6b_s6, evB_cons, evS_Aug, E6b_g5, kA0_ap, ne_eq, reduceCtorEq, not_false_eq_true, evE_Bin, evE_Call, evEs_cons, fE_ap, evE_Name, kNm_some, kE1_ap, evEs_nil, kE2_ap, kCa_ap, cf_abs, kBi1_ap, evE_int, kBi2_ap, bin_sub, E6b_g0, true_and]); try (refine retQ ?_; try simp only [List.take_length, and_true, true_and]))
      refine ⟨_, _, hlc _ _ _ _ ⟨k.natAbs - 1, n, ?_, by lia, hn, rfl, rfl⟩, ?_⟩
      · rw [show ((k.natAbs : Int) - 1) = ((k.natAbs - 1 : Nat) : Int) by lia]
      obtain ⟨z, z1, z2, z3⟩ := lit_col hn hk
      rw [hF] at z2
      have fin : ∃ m'', Weak (List.length h') (E6b (.int n) (.ref ci) (.int F) (.int y) (.d (.t (aIs a))) (.int (Builtin.bitOr x z)) (.int k)) m'' ∧
          I6c n ci F y a h' r2 m'' h' := by
        refine ⟨_, ?_, x ||| z, .undef, rfl, rfl, Nat.or_lt_two_pow hx z1, fun m hm => ?_, fun l hl => hs2 l (.tail _ hl)⟩
        · rw [bitOr_nat]; (repeat' (first | exact weak_nil | exact trivial | assumption | apply weak_drop | apply weak_keep))
        · rw [← hr2 m hm, Nat.testBit_or, z3 m hm, List.any_cons, Bool.or_assoc]
      ((try simp only [kBi1_ap, evE_IfExp, evT_Compare, evE_Name, E6b_g6, kNm_some, ne_eq, reduceCtorEq, not_false_eq_true, kTC1_ap, evE_int, kTC2_ap, cmp_gt, kTC3_ap, kIfE_ap, kBi2_ap, bin_xor, kA1_ap, in_or, kA2_ap, E6b_s5, kB_next, evB_nil, kTu_next, List.take_length, E6b_g2, true_and]); try (refine retQ ?_; try simp only [List.take_length, and_true, true_and]))
      by_cases hk0 : 0 < k
      · rw [if_pos (by simpa using hk0)] at z2
        rw [if_pos (by simpa using hk0)]
        ((try simp only [z2]); try (refine retQ ?_; try simp only [List.take_length, and_true, true_and, z2]))
        exact fin
      · rw [if_neg (by simpa using hk0)] at z2
        rw [if_neg (by simpa using hk0)]
        ((try simp only [z2]); try (refine retQ ?_; try simp only [List.take_length, and_true, true_and, z2]))
        exact fin
    · rintro m h' ⟨x, l, rfl, rfl, hx, hr2, -⟩
      ((try simp only [kB_next, evB_cons, evS_Aug, E6b_g3, kA0_ap, ne_eq, reduceCtorEq, not_false_eq_true, evE_Name, E6b_g5, kNm_some, kA1_ap, in_and, kA2_ap, E6b_s3, evB_nil, kTu_next, List.take_length, true_and]); try (refine retQ ?_; try simp only [List.take_length, and_true, true_and]))
      refine ⟨_, ?_, y &&& x, .undef, .undef, .undef, rfl, rfl, Nat.lt_of_le_of_lt Nat.and_le_left hy, fun m hm => ?_, fun c hc => hs c (.tail _ hc)⟩
      · rw [bitAnd_nat]; (repeat' (first | exact weak_nil | exact trivial | assumption | apply weak_drop | apply weak_keep))
      · have := hr2 m hm
        rw [List.any_nil, Bool.or_false] at this
        rw [← hr m hm, Nat.testBit_and, this, List.all_cons, Bool.and_assoc]
  · rintro m h' ⟨y, c, col, l, rfl, rfl, hy, hr, -⟩
    ((try simp only [kB_next, evB_cons, evS_Return, evE_Compare, evE_Name, E6b_g3, kNm_some, ne_eq, reduceCtorEq, not_false_eq_true, kC1_ap, evE_int, kC2_ap, cmp_eq, kC3_ap, kR_ap, kB_ret, true_and]); try (refine retQ ?_; try simp only [List.take_length, and_true, true_and]))
    refine ⟨?_, trivial, Nat.le_refl _⟩
    have : (((y : Int) == 0)) = b := by
      rw [Bool.eq_iff_iff, hb]
      unfold Unsat
      rw [beq_iff_eq]
      constructor
      · intro h m hm
        have : y = 0 := by lia
        have := hr m hm
        subst y
        rw [← this, Nat.zero_testBit]; rfl
      · intro h
        have : y = 0 := by
          apply Nat.eq_of_testBit_eq
          intro m
          rw [Nat.zero_testBit]
          by_cases hm : m < 2 ^ n
          · have q := hr m hm
            rw [List.all_nil, Bool.and_true, h m hm] at q
            exact q
          · exact Nat.testBit_lt_two_pow (Nat.lt_of_lt_of_le hy (Nat.pow_le_pow_right (by decide) (by lia)))
        lia
    rw [this]
end Mine

/-! P7 -/
namespace Mine
open PySem
noncomputable def E7a (v0 v1 v2 v3 v4 v5 v6 v7 : V) : Loc := [("order", v0), ("twist", v1), ("rows", v2), ("size", v3), ("m", v4), ("mark", v5), ("clause", v6), ("j", v7)]
section
variable {v0 v1 v2 v3 v4 v5 v6 v7 w : V}
theorem E7a_g0 : lget (E7a v0 v1 v2 v3 v4 v5 v6 v7) (Str.ofString "order") = some v0 := (rfl)
theorem E7a_g1 : lget (E7a v0 v1 v2 v3 v4 v5 v6 v7) (Str.ofString "twist") = some v1 := (rfl)
theorem E7a_g2 : lget (E7a v0 v1 v2 v3 v4 v5 v6 v7) (Str.ofString "rows") = some v2 := (rfl)
theorem E7a_s2 : lset (E7a v0 v1 v2 v3 v4 v5 v6 v7) (Str.ofString "rows") w = E7a v0 v1 w v3 v4 v5 v6 v7 := (rfl)
theorem E7a_g3 : lget (E7a v0 v1 v2 v3 v4 v5 v6 v7) (Str.ofString "size") = some v3 := (rfl)
theorem E7a_s3 : lset (E7a v0 v1 v2 v3 v4 v5 v6 v7) (Str.ofString "size") w = E7a v0 v1 v2 w v4 v5 v6 v7 := (rfl)
theorem E7a_g4 : lget (E7a v0 v1 v2 v3 v4 v5 v6 v7) (Str.ofString "m") = some v4 := (rfl)
theorem E7a_s4 : lset (E7a v0 v1 v2 v3 v4 v5 v6 v7) (Str.ofString "m") w = E7a v0 v1 v2 v3 w v5 v6 v7 := (rfl)
theorem E7a_g5 : lget (E7a v0 v1 v2 v3 v4 v5 v6 v7) (Str.ofString "mark") = some v5 := (rfl)
theorem E7a_s5 : lset (E7a v0 v1 v2 v3 v4 v5 v6 v7) (Str.ofString "mark") w = E7a v0 v1 v2 v3 v4 w v6 v7 := (rfl)
theorem E7a_g6 : lget (E7a v0 v1 v2 v3 v4 v5 v6 v7) (Str.ofString "clause") = some v6 := (rfl)
theorem E7a_s6 : lset (E7a v0 v1 v2 v3 v4 v5 v6 v7) (Str.ofString "clause") w = E7a v0 v1 v2 v3 v4 v5 w v7 := (rfl)
theorem E7a_g7 : lget (E7a v0 v1 v2 v3 v4 v5 v6 v7) (Str.ofString "j") = some v7 := (rfl)
theorem E7a_s7 : lset (E7a v0 v1 v2 v3 v4 v5 v6 v7) (Str.ofString "j") w = E7a v0 v1 v2 v3 v4 v5 v6 w := (rfl)
end

section
variable {Γ : Gam} {n : Nat} {m : Loc} {h : Hp}
theorem forV_nat {x : Str} {b : List Stmt} {k : Nat} {Q : Fl → Loc → Hp → Prop} (hk : k ≤ 1000) (I : List Nat → Loc → Hp → Prop) (h0 : I (List.range k) m h)
    (hs : ∀ a r m h', I (a :: r) m h' → hasL m x ∧ evB Γ n b (lset m x (.int a)) h' (kTu h.length I r Q))
    (he : ∀ m h, I [] m h → Q .next m h) : forV Γ n x b (.range 0 k 1) m h Q := by
  refine ⟨by decide, by lia, .inl rfl, ?_⟩
  ((try simp only [hasL]); try (refine retQ ?_; try simp only [List.take_length, and_true, true_and]))
  have e : (rangeList 0 k 1).map V.int = (List.range k).map fun a : Nat => V.int a := by
    simp only [rangeList, if_true, List.map_map, Int.sub_zero, Int.toNat_natCast]
    apply List.map_congr_left
    intro a _
    simp
  rw [e]
  exact turns_of _ _ I h0 (fun _ _ _ _ => trivial) hs he
noncomputable def downs (k : Nat) : List Nat := (List.range (k + 1)).map fun i => k - i
theorem forV_downs {x : Str} {b : List Stmt} {k : Nat} {Q : Fl → Loc → Hp → Prop} (hk : k ≤ 1000) (I : List Nat → Loc → Hp → Prop) (h0 : I (downs k) m h)
    (hs : ∀ a r m h', I (a :: r) m h' → hasL m x ∧ evB Γ n b (lset m x (.int a)) h' (kTu h.length I r Q))
    (he : ∀ m h, I [] m h → Q .next m h) : forV Γ n x b (.range k (-1) (-1)) m h Q := by
  refine ⟨by lia, by decide, .inr rfl, ?_⟩
  ((try simp only [hasL]); try (refine retQ ?_; try simp only [List.take_length, and_true, true_and]))
  have e : (rangeList k (-1) (-1)).map V.int = (downs k).map fun a : Nat => V.int a := by
    unfold rangeList downs
    rw [if_neg (by decide), if_pos rfl, List.map_map, List.map_map, show ((k : Int) - -1).toNat = k + 1 by lia]
    apply List.map_congr_left
    intro a ha
    have := List.mem_range.mp ha
    show V.int ((k : Int) - a) = V.int ((k - a : Nat) : Int)
    rw [show ((k : Int) - a) = ((k - a : Nat) : Int) by lia]
  rw [e]
  exact turns_of _ _ I h0 (fun _ _ _ _ => trivial) hs he
end

noncomputable def caseC (W : List Int) (size mark : Nat) : List Int := (List.range size).map fun j => if mark.testBit j = true then W.getD j 0 else -W.getD j 0
noncomputable def casesS (W : List Int) (t size : Nat) : List (List Int) := (List.range (2 ^ size)).map fun m => caseC W size (m ^^^ (t % 2 ^ size))
noncomputable def casesF (W : List Int) (t : Nat) : List (List Int) := (downs W.length).flatMap (casesS W t)
inductive SpLK (vs : List V) (h : Hp) (r : V) (h' : Hp) : Prop
  | mk (oi t : Nat) (W : List Int) (e0 : vs = [.ref oi, .int t]) (e1 : lsAt h oi = some (dIs W)) (e2 : W.length ≤ 3) (e3 : r = .ref h.length) (e4 : h' = h ++ [.list (dCls (casesF W t))]) : SpLK vs h r h'

theorem xor8 : ∀ x < 8, ∀ y < 8, Builtin.bitXor ((x : Nat) : Int) ((y : Nat) : Int) = ((x ^^^ y : Nat) : Int) := by decide
theorem bit8 : ∀ x < 8, ∀ j < 3, (Builtin.bitAnd (((x : Nat) : Int).fdiv (2 ^ ((j : Nat) : Int).toNat)) 1 == 1) = Nat.testBit x j := by decide
theorem dIs_snoc {K : List Int} {w : Int} : dIs K ++ [D.a (At.int w)] = dIs (K ++ [w]) := by simp [dIs, dI]

inductive I7a (oi t : Nat) (W : List Int) (h : Hp) (r : List Nat) (m : Loc) (h1 : Hp) : Prop
  | mk (R : List (List Int)) (s m2 mk cl j : V) (e0 : m = (E7a (.ref oi) (.int t) (.ref h.length) s m2 mk cl j)) (e1 : h1 = h ++ [.list (dCls R)]) (e2 : R ++ r.flatMap (casesS W t) = casesF W t) (e3 : ∀ s ∈ r, s ∈ downs W.length) : I7a oi t W h r m h1
inductive I7b (oi t : Nat) (W : List Int) (h : Hp) (s : Nat) (R : List (List Int)) (r2 : List Nat) (m : Loc) (h1 : Hp) : Prop
  | mk (R2 : List (List Int)) (m2 mk cl j : V) (e0 : m = (E7a (.ref oi) (.int t) (.ref h.length) (.int s) m2 mk cl j)) (e1 : h1 = h ++ [.list (dCls R2)]) (e2 : (R2 ++ r2.map fun m => caseC W s (m ^^^ (t % 2 ^ s))) = R ++ casesS W t s) (e3 : ∀ a ∈ r2, a < 2 ^ s) : I7b oi t W h s R r2 m h1
inductive I7c (oi t : Nat) (W : List Int) (h : Hp) (s a M : Nat) (R2 : List (List Int)) (r3 : List Nat) (m : Loc) (h1 : Hp) : Prop
  | mk (K : List Int) (j : V) (e0 : m = (E7a (.ref oi) (.int t) (.ref h.length) (.int s) (.int a) (.int M) (.ref (h.length + 1)) j)) (e1 : h1 = (h ++ [.list (dCls R2)]) ++ [.list (dIs K)]) (e2 : (K ++ r3.map fun j => if M.testBit j = true then W.getD j 0 else -W.getD j 0) = caseC W s M) (e3 : ∀ a ∈ r3, a < s) : I7c oi t W h s a M R2 r3 m h1
theorem fn_lk (Γ : Gam) : FnOk Γ 10 SpLK := by
  rintro vs h r h' ⟨oi, t, W, rfl, hoi, hW, rfl, rfl⟩
  refine ⟨rfl, by simp, ?_⟩
  have e : initLoc (localsAt 10) (paramsAt 10) [.ref oi, .int t] = (E7a (.ref oi) (.int t) .undef .undef .undef .undef .undef .undef) := by rfl
  have hb := lsAt_lt hoi
  have hb1 : oi < h.length + 1 := by lia
  have hb2 : oi < h.length + 2 := by lia
  have hc1 : h.length < h.length + 1 := by lia
  have hc2 : h.length < h.length + 2 := by lia
  have hd2 : h.length + 1 < h.length + 2 := by lia
  have len1 : ∀ o : O, List.length (h ++ [o] : Hp) = h.length + 1 := fun ds => by simp
  have len2 : ∀ o p : O, List.length ((h ++ [o]) ++ [p] : Hp) = h.length + 2 := fun ds => by simp
  rw [e]
  conv in bodyAt 10 => whnf
  ((try simp only [evB_cons, evS_Assign, evE_List, evEs_nil, kLst_ap, datas_nil, List.length_nil, Nat.reduceLeDiff, kAs_ap, hasL, E7a_g2, Option.isSome_some, E7a_s2, kB_next, evS_ForCall, evE_Call, evEs_cons, fE_ap, evE_Name, E7a_g0, kNm_some, ne_eq, reduceCtorEq, not_false_eq_true, kE1_ap, kE2_ap, kCa_ap, true_and]); try (refine retQ ?_; try simp only [List.take_length, and_true, true_and]))
  refine cf_lenR (lsAt_append hoi) (by rw [dIs_len]; lia) ?_
  ((try simp only [kE1_ap, evEs_cons, fE_ap, evE_Unary, evE_int, kUn_ap, unop_neg, kV_ap, evEs_nil, kE2_ap, kCa_ap, cf_range3, kFor_ap, true_and]); try (refine retQ ?_; try simp only [List.take_length, and_true, true_and]))
  rw [dIs_len]
  (try (refine retQ ?_; try simp only [List.take_length, and_true, true_and]))
  have hall : ∀ s ∈ downs W.length, s ≤ 3 := by
    intro s hs
    obtain ⟨i, _, rfl⟩ := List.mem_map.mp hs
    lia
  have hle : ∀ s ∈ downs W.length, s ≤ W.length := by
    intro s hs
    obtain ⟨i, _, rfl⟩ := List.mem_map.mp hs
    lia
  have hlen : (casesF W t).length ≤ 1000 := by
    have : ∀ k ≤ 3, ((downs k).flatMap fun s => List.range (2 ^ s)).length ≤ 1000 := by decide
    have h2 := this _ hW
    have e3 : (casesF W t).length = ((downs W.length).flatMap fun s => List.range (2 ^ s)).length := by
      unfold casesF
      rw [List.length_flatMap, List.length_flatMap]
      congr 1
      apply List.map_congr_left
      intro a _
      simp [casesS]
    lia
  refine forV_downs (by lia) (I7a oi t W h) ?_ ?_ ?_
  · exact ⟨[], _, _, _, _, _, rfl, rfl, rfl, fun s hs => hs⟩
  · rintro s r m _ ⟨R, s0, m2, mk, cl, j, rfl, rfl, hR, hs⟩
    have hs3 := hall s (hs s (.head _))
    have hsW := hle s (hs s (.head _))
    have p1 : (1 : Int) * 2 ^ ((s : Int)).toNat = ((2 ^ s : Nat) : Int) := by rw [Int.toNat_natCast]; simp
    have p2 : (2 : Nat) ^ s ≤ 8 := (Nat.pow_le_pow_right (by decide) hs3)
    have p0 : 0 < (2 : Nat) ^ s := Nat.pow_pos (by decide)
    rw [List.flatMap_cons] at hR
    ((try simp only [hasL, E7a_g3, Option.isSome_some, E7a_s3, len1, evB_cons, evS_ForCall, evE_Call, evEs_cons, fE_ap, evE_Bin, evE_int, kBi1_ap, evE_Name, kNm_some, ne_eq, reduceCtorEq, not_false_eq_true, kBi2_ap, bin_shl, kE1_ap, evEs_nil, kE2_ap, kCa_ap, cf_range1, kFor_ap, true_and]); try (refine retQ ?_; try simp only [List.take_length, and_true, true_and, len1]))
    refine ⟨by lia, by lia, by decide, ?_⟩
    (try (refine retQ ?_; try simp only [List.take_length, and_true, true_and]))
    rw [p1]
    refine forV_nat (by lia) (I7b oi t W h s R) ?_ ?_ ?_
    · exact ⟨R, _, _, _, _, rfl, rfl, rfl, fun a ha => List.mem_range.mp ha⟩
    · rintro a r2 m _ ⟨R2, m2, mk, cl, j, rfl, rfl, hR2, hs2⟩
      have ha := hs2 a (.head _)
      have hR2l : R2.length ≤ 1000 := by
        have l1 := congrArg List.length hR
        have l2 := congrArg List.length hR2
        simp only [List.length_append] at l1 l2
        lia
      have ht : t % 2 ^ s < 2 ^ s := Nat.mod_lt _ p0
      rw [List.map_cons] at hR2
      ((try simp only [hasL, E7a_g4, Option.isSome_some, E7a_s4, len1, evB_cons, evS_Assign, evE_Bin, evE_Name, kNm_some, ne_eq, reduceCtorEq, not_false_eq_true, kBi1_ap, evE_Call, evEs_cons, fE_ap, E7a_g1, kE1_ap, evEs_nil, kE2_ap, kCa_ap, cf_int, evE_int, E7a_g3, kBi2_ap, bin_shl, bin_mod, bin_xor, kAs_ap, E7a_g5, E7a_s5, kB_next, evE_List, kLst_ap, datas_nil, List.length_nil, Nat.reduceLeDiff, E7a_g6, E7a_s6, evS_ForCall, cf_range1, kFor_ap, true_and]); try (refine retQ ?_; try simp only [List.take_length, and_true, true_and, len1]))
      refine ⟨by lia, by lia, by decide, ?_⟩
      (try (refine retQ ?_; try simp only [List.take_length, and_true, true_and]))
      rw [p1]
      refine ⟨by lia, ?_⟩
      (try (refine retQ ?_; try simp only [List.take_length, and_true, true_and]))
      rw [← Int.ofNat_fmod, xor8 a (by lia) _ (by lia)]
      generalize hM : a ^^^ (t % 2 ^ s) = M at hR2 ⊢
      have hM8 : M < 8 := by rw [← hM]; exact Nat.xor_lt_two_pow (n := 3) (by lia) (by lia)
      refine forV_nat (by lia) (I7c oi t W h s a M R2) ?_ ?_ ?_
      · exact ⟨[], _, rfl, rfl, rfl, fun a ha => List.mem_range.mp ha⟩
      · rintro q r3 m _ ⟨K, j, rfl, rfl, hK, hs3⟩
        have hq := hs3 q (.head _)
        have lsK := lsAt_last (h := h ++ [O.list (dCls R2)]) (xs := dIs K)
        rw [len1] at lsK
        have hKl : K.length ≤ 1000 := by
          have l1 := congrArg List.length hK
          simp only [List.length_append, caseC, List.length_map, List.length_range] at l1
          lia
        rw [List.map_cons] at hK
        have stK : ∀ o : O, List.set ((h ++ [O.list (dCls R2)]) ++ [.list (dIs K)]) (h.length + 1) o = (h ++ [O.list (dCls R2)]) ++ [o] := fun o => by
          have := set_last (h := h ++ [O.list (dCls R2)]) (o := .list (dIs K)) (p := o)
          rwa [len1] at this
        ((try simp only [hasL, E7a_g7, Option.isSome_some, E7a_s7, len2, evB_cons, evS_Expr, evE_Meth, evE_Name, E7a_g6, kNm_some, ne_eq, reduceCtorEq, not_false_eq_true, kM1_ap, evEs_cons, fE_ap, evE_IfExp, evT_Compare, evE_Bin, E7a_g5, kBi1_ap, kBi2_ap, bin_shr, evE_int, bin_and, kTC1_ap, kTC2_ap, cmp_eq, kTC3_ap, kIfE_ap, evE_SubN, E7a_g0, kIx1_ap, kIx2_ap, true_and, evE_Unary]); try (refine retQ ?_; try simp only [List.take_length, and_true, true_and, len2]))
        refine ⟨mo_append lsK, by lia, ?_⟩
        (try (refine retQ ?_; try simp only [List.take_length, and_true, true_and]))
        rw [bit8 M hM8 q (by lia)]
        by_cases hbit : M.testBit q = true
        · rw [if_pos hbit]
          refine get_ints (lsAt_append (lsAt_append hoi)) (by lia) (by lia) (by lia) ?_
          ((try simp only [kV_ap, kE1_ap, evEs_nil, kE2_ap, kM2_ap]); try (refine retQ ?_; try simp only [List.take_length, and_true, true_and]))
          rw [Int.toNat_natCast]
          refine m_append lsK (by rw [dIs_len]; lia) ?_
          ((try simp only [kX_ap, kB_next, evB_nil, kTu_next]); try (refine retQ ?_; try simp only [List.take_length, and_true, true_and]))
          rw [stK, dIs_snoc]
          refine ⟨_, ?_, K ++ [W.getD q 0], .undef, rfl, ?_, ?_, fun a ha => hs3 a (.tail _ ha)⟩
          · (repeat' (first | exact weak_nil | exact trivial | assumption | apply weak_drop | apply weak_keep))
          · rw [List.take_of_length_le (by rw [len2]; exact Nat.le_refl _)]
          · rw [← hK, List.append_assoc]
            show K ++ ([W.getD q 0] ++ _) = K ++ ((if M.testBit q = true then W.getD q 0 else -W.getD q 0) :: _)
            rw [if_pos hbit]; rfl
        · rw [if_neg hbit]
          refine get_ints (lsAt_append (lsAt_append hoi)) (by lia) (by lia) (by lia) ?_
          ((try simp only [kV_ap, kUn_ap, unop_neg, kE1_ap, evEs_nil, kE2_ap, kM2_ap]); try (refine retQ ?_; try simp only [List.take_length, and_true, true_and]))
          rw [Int.toNat_natCast]
          (try (refine retQ ?_; try simp only [List.take_length, and_true, true_and]))
          refine m_append lsK (by rw [dIs_len]; lia) ?_
          ((try simp only [kX_ap, kB_next, evB_nil, kTu_next]); try (refine retQ ?_; try simp only [List.take_length, and_true, true_and]))
          rw [stK, dIs_snoc]
          refine ⟨_, ?_, K ++ [-W.getD q 0], .undef, rfl, ?_, ?_, fun a ha => hs3 a (.tail _ ha)⟩
          · (repeat' (first | exact weak_nil | exact trivial | assumption | apply weak_drop | apply weak_keep))
          · rw [List.take_of_length_le (by rw [len2]; exact Nat.le_refl _)]
          · rw [← hK, List.append_assoc]
            show K ++ ([-W.getD q 0] ++ _) = K ++ ((if M.testBit q = true then W.getD q 0 else -W.getD q 0) :: _)
            rw [if_neg hbit]; rfl
      · rintro m _ ⟨K, j, rfl, rfl, hK, -⟩
        rw [List.map_nil, List.append_nil] at hK
        have lsK := lsAt_last (h := h ++ [O.list (dCls R2)]) (xs := dIs K)
        rw [len1] at lsK
        have hKl : K.length ≤ 1000 := by
          have l1 := congrArg List.length hK
          simp only [caseC, List.length_map, List.length_range] at l1
          lia
        ((try simp only [kB_next, evB_cons, evS_Expr, evE_Meth, evE_Name, E7a_g2, kNm_some, ne_eq, reduceCtorEq, not_false_eq_true, kM1_ap, evEs_cons, fE_ap, evE_Call, E7a_g6, kE1_ap, evEs_nil, kE2_ap, kCa_ap, true_and]); try (refine retQ ?_; try simp only [List.take_length, and_true, true_and]))
        refine ⟨mo_append (lsAt_append lsAt_last), cf_tuple lsK hKl ?_⟩
        ((try simp only [kE1_ap, evEs_nil, kE2_ap, kM2_ap]); try (refine retQ ?_; try simp only [List.take_length, and_true, true_and]))
        refine m_append (lsAt_append lsAt_last) (by rw [dCls_len]; lia) ?_
        ((try simp only [kX_ap, kB_next, evB_nil, kTu_next]); try (refine retQ ?_; try simp only [List.take_length, and_true, true_and]))
        rw [set_last2, take_last2, dCls_snoc]
        refine ⟨_, ?_, R2 ++ [K], .undef, .undef, .undef, .undef, rfl, rfl, ?_, fun a ha => hs2 a (.tail _ ha)⟩
        · (repeat' (first | exact weak_nil | exact trivial | assumption | apply weak_drop | apply weak_keep))
        · rw [← hR2, hK, List.append_assoc]; rfl
    · rintro m _ ⟨R2, m2, mk, cl, j, rfl, rfl, hR2, -⟩
      rw [List.map_nil, List.append_nil] at hR2
      ((try simp only [kB_next, evB_nil, kTu_next]); try (refine retQ ?_; try simp only [List.take_length, and_true, true_and]))
      refine ⟨_, ?_, R2, .undef, .undef, .undef, .undef, .undef, rfl, ?_, ?_, fun a ha => hs a (.tail _ ha)⟩
      · (repeat' (first | exact weak_nil | exact trivial | assumption | apply weak_drop | apply weak_keep))
      · exact List.take_of_length_le (by rw [len1]; exact Nat.le_refl _)
      · rw [← hR, hR2, List.append_assoc]
  · rintro m _ ⟨R, s0, m2, mk, cl, j, rfl, rfl, hR, hs⟩
    rw [List.flatMap_nil, List.append_nil] at hR
    ((try simp only [kB_next, evB_cons, evS_Return, evE_Name, E7a_g2, kNm_some, ne_eq, reduceCtorEq, not_false_eq_true, kR_ap, kB_ret, true_and]); try (refine retQ ?_; try simp only [List.take_length, and_true, true_and, len1]))
    rw [hR]
    exact ⟨by show _ < _; lia, Nat.le_succ _, (List.take_of_length_le (by rw [len1]; exact Nat.le_refl _)).symm⟩
end Mine

/-! P8 -/
namespace Mine
open PySem
noncomputable def E8a (v0 v1 v2 v3 v4 v5 v6 v7 : V) : Loc := [("clauses", v0), ("literals", v1), ("true", v2), ("forced", v3), ("clause", v4), ("held", v5), ("free", v6), ("literal", v7)]
section
variable {v0 v1 v2 v3 v4 v5 v6 v7 w : V}
theorem E8a_g0 : lget (E8a v0 v1 v2 v3 v4 v5 v6 v7) (Str.ofString "clauses") = some v0 := (rfl)
theorem E8a_g1 : lget (E8a v0 v1 v2 v3 v4 v5 v6 v7) (Str.ofString "literals") = some v1 := (rfl)
theorem E8a_g2 : lget (E8a v0 v1 v2 v3 v4 v5 v6 v7) (Str.ofString "true") = some v2 := (rfl)
theorem E8a_s2 : lset (E8a v0 v1 v2 v3 v4 v5 v6 v7) (Str.ofString "true") w = E8a v0 v1 w v3 v4 v5 v6 v7 := (rfl)
theorem E8a_g3 : lget (E8a v0 v1 v2 v3 v4 v5 v6 v7) (Str.ofString "forced") = some v3 := (rfl)
theorem E8a_s3 : lset (E8a v0 v1 v2 v3 v4 v5 v6 v7) (Str.ofString "forced") w = E8a v0 v1 v2 w v4 v5 v6 v7 := (rfl)
theorem E8a_g4 : lget (E8a v0 v1 v2 v3 v4 v5 v6 v7) (Str.ofString "clause") = some v4 := (rfl)
theorem E8a_s4 : lset (E8a v0 v1 v2 v3 v4 v5 v6 v7) (Str.ofString "clause") w = E8a v0 v1 v2 v3 w v5 v6 v7 := (rfl)
theorem E8a_g5 : lget (E8a v0 v1 v2 v3 v4 v5 v6 v7) (Str.ofString "held") = some v5 := (rfl)
theorem E8a_s5 : lset (E8a v0 v1 v2 v3 v4 v5 v6 v7) (Str.ofString "held") w = E8a v0 v1 v2 v3 v4 w v6 v7 := (rfl)
theorem E8a_g6 : lget (E8a v0 v1 v2 v3 v4 v5 v6 v7) (Str.ofString "free") = some v6 := (rfl)
theorem E8a_s6 : lset (E8a v0 v1 v2 v3 v4 v5 v6 v7) (Str.ofString "free") w = E8a v0 v1 v2 v3 v4 v5 w v7 := (rfl)
theorem E8a_g7 : lget (E8a v0 v1 v2 v3 v4 v5 v6 v7) (Str.ofString "literal") = some v7 := (rfl)
theorem E8a_s7 : lset (E8a v0 v1 v2 v3 v4 v5 v6 v7) (Str.ofString "literal") w = E8a v0 v1 v2 v3 v4 v5 v6 w := (rfl)
end

/-- the literals of the variables -/
noncomputable def univ (n : Nat) : List Int := (List.range (2 * n + 1)).map fun k : Nat => (k : Int) - n
theorem mem_univ {n : Nat} {l : Int} (h : OkL n l) : l ∈ univ n := by
  have := h.2
  exact List.mem_map.mpr ⟨(l + n).toNat, List.mem_range.mpr (by lia), by lia⟩
noncomputable def room (n : Nat) (T : List Int) : Nat := (univ n).countP fun l => !decide (l ∈ T)
theorem countP_lt {α : Type} {p q : α → Bool} : ∀ {l : List α}, (∀ x ∈ l, q x = true → p x = true) → (∃ x ∈ l, p x = true ∧ q x = false) → l.countP q < l.countP p
  | [], _, h => by obtain ⟨x, h, _⟩ := h; cases h
  | y :: l, hpq, h => by
    rw [List.countP_cons, List.countP_cons]
    have hm : l.countP q ≤ l.countP p := List.countP_mono_left fun x hx => hpq x (.tail _ hx)
    obtain ⟨x, hx, h1, h2⟩ := h
    rcases List.mem_cons.mp hx with rfl | hx
    · rw [h1, h2]; simp; lia
    · have := countP_lt (fun x hx => hpq x (.tail _ hx)) ⟨x, hx, h1, h2⟩
      have hq := hpq y (.head _)
      cases q1 : q y with
      | true => rw [hq q1]; simp; lia
      | false => by_cases z : p y = true <;> simp [z] <;> lia
theorem room_lt {n : Nat} {T F : List Int} {l : Int} (hl : OkL n l) (h1 : l ∈ F) (h2 : l ∉ T) : room n (lUni T F) < room n T := by
  refine countP_lt (fun x _ hx => ?_) ⟨l, mem_univ hl, by simpa using h2, by simp [mem_lUni, h1]⟩
  simp [mem_lUni] at hx ⊢
  exact hx.1

theorem small_len {n : Nat} {T : List Int} (hn : n ≤ 3) (h1 : T.Nodup) (h2 : OkC n T) : T.length ≤ 7 := by
  have := sub_len h1 (U := univ n) fun x hx => mem_univ (h2 x hx)
  have e : (univ n).length = 2 * n + 1 := by simp [univ]
  lia
noncomputable def s1 (h : Hp) (T : List Int) : Hp := h ++ [.set T]
noncomputable def s2 (h : Hp) (T F : List Int) : Hp := (h ++ [.set T]) ++ [.set F]
noncomputable def s3 (h : Hp) (T F R : List Int) : Hp := ((h ++ [.set T]) ++ [.set F]) ++ [.set R]
section
variable {h : Hp} {T F R T' F' R' : List Int} {i : Nat} {ds : List D}
theorem s1_len : List.length (s1 h T) = h.length + 1 := by simp [s1]
theorem s2_len : List.length (s2 h T F) = h.length + 2 := by simp [s2]
theorem s3_len : List.length (s3 h T F R) = h.length + 3 := by simp [s3]
theorem s2_old (e : lsAt h i = some ds) : lsAt (s2 h T F) i = some ds := lsAt_append (lsAt_append e)
theorem s2_T : stAt (s2 h T F) h.length = some T := stAt_append stAt_last
theorem s3_T : stAt (s3 h T F R) h.length = some T := stAt_append (stAt_append stAt_last)
theorem s2_F : stAt (s2 h T F) (h.length + 1) = some F := by
  have := stAt_last (h := s1 h T) (xs := F)
  rwa [s1_len] at this
theorem s3_F : stAt (s3 h T F R) (h.length + 1) = some F := stAt_append (s2_F)
theorem s3_R : stAt (s3 h T F R) (h.length + 2) = some R := by
  have := stAt_last (h := s2 h T F) (xs := R)
  rwa [s2_len] at this
theorem s3_setR : List.set (s3 h T F R) (h.length + 2) (.set R') = s3 h T F R' := by
  have := set_last (h := s2 h T F) (o := .set R) (p := .set R')
  rwa [s2_len] at this
theorem s3_setF : List.set (s3 h T F R) (h.length + 1) (.set F') = s3 h T F' R := by
  have := set_last2 (h := s1 h T) (o := .set F) (p := .set F') (q := .set R)
  rwa [s1_len] at this
theorem s2_setT : List.set (s2 h T F) h.length (.set T') = s2 h T' F := set_last2
theorem s3_take2 : List.take (h.length + 2) (s3 h T F R) = s2 h T F := by
  have := take_last2 (h := s1 h T) (o := .set F) (q := .set R)
  rwa [s1_len] at this
theorem s2_take1 : List.take (h.length + 1) (s2 h T F) = s1 h T := take_last2
theorem s3_take3 : List.take (h.length + 3) (s3 h T F R) = s3 h T F R := List.take_of_length_le (by rw [s3_len]; exact Nat.le_refl _)
theorem s2_take0 : List.take h.length (s2 h T F) = h := by simp [s2]
theorem s3_take0 : List.take h.length (s3 h T F R) = h := by simp [s3]
theorem cmp_in {x : Int} {Q : Bool → Prop} (e : stAt h i = some T) (hl : T.length ≤ 1000) (q : Q (decide (x ∈ T))) : cmpop .In (.int x) (.ref i) h Q := by
  show (match stAt h i with | some ns => _ | .none => False)
  rw [e]; exact ⟨hl, q⟩
theorem cmp_notin {x : Int} {Q : Bool → Prop} (e : stAt h i = some T) (hl : T.length ≤ 1000) (q : Q (!decide (x ∈ T))) : cmpop .NotIn (.int x) (.ref i) h Q := by
  show (match stAt h i with | some ns => _ | .none => False)
  rw [e]; exact ⟨hl, q⟩
theorem in_ior {j : Nat} {Q : V → Hp → Prop} (e : stAt h i = some T) (f : stAt h j = some F) (hij : i ≠ j) (hl : T.length + F.length ≤ 14) (q : Q (.ref i) (h.set i (.set (lUni T F)))) : inop .BitOr (.ref i) (.ref j) h Q := by
  show (match stAt h i, stAt h j with | some ns, some ms => _ | _, _ => False)
  rw [e, f]; exact ⟨hij, hl, q⟩
end

inductive SpLF (vs : List V) (h : Hp) (r : V) (h' : Hp) : Prop
  | mk (n ci li : Nat) (C : List (List Int)) (L : List Int) (b : Bool) (e0 : vs = [.ref ci, .ref li]) (e1 : n ≤ 3) (e2 : lsAt h ci = some (dCls C)) (e3 : lsAt h li = some (dIs L)) (e4 : C.length ≤ 50) (e5 : L.length ≤ 14) (e6 : (∀ c ∈ C, c.length ≤ 8 ∧ OkC n c)) (e7 : OkC n L) (e8 : r = .bool b) (e9 : (b = true ↔ Fails C L)) (e10 : h' = h) : SpLF vs h r h'

inductive I8a (n ci li : Nat) (C : List (List Int)) (L : List Int) (h' : Hp) (k : Nat) (m : Loc) (h : Hp) : Prop
  | mk (T : List Int) (f c hd fr lt : V) (e0 : k = room n T) (e1 : m = (E8a (.ref ci) (.ref li) (.ref h'.length) f c hd fr lt)) (e2 : h = s1 h' T) (e3 : (∀ l ∈ T, Der C L l)) (e4 : (∀ l ∈ L, l ∈ T)) (e5 : T.Nodup) (e6 : OkC n T) : I8a n ci li C L h' k m h
inductive I8b (n ci li : Nat) (C : List (List Int)) (L : List Int) (h' : Hp) (T : List Int) (r : List (List Int)) (m : Loc) (h : Hp) : Prop
  | mk (F : List Int) (c hd fr lt : V) (e0 : m = (E8a (.ref ci) (.ref li) (.ref h'.length) (.ref (h'.length + 1)) c hd fr lt)) (e1 : h = s2 h' T F) (e2 : F.Nodup) (e3 : (∀ l ∈ F, Der C L l ∧ OkL n l ∧ l ∉ T)) (e4 : (∀ c ∈ C, c ∈ r ∨ F ≠ [] ∨ (∃ l ∈ c, l ∈ T) ∨ ∃ l₁ ∈ c, ∃ l₂ ∈ c, l₁ ≠ l₂ ∧ -l₁ ∉ T ∧ -l₂ ∉ T)) (e5 : ∀ c ∈ r, c ∈ C) : I8b n ci li C L h' T r m h
inductive I8c (n ci li : Nat) (C : List (List Int)) (L : List Int) (h' : Hp) (T F a : List Int) (r2 : List Int) (m : Loc) (h : Hp) : Prop
  | mk (hd : Bool) (R : List Int) (lt : V) (e0 : m = (E8a (.ref ci) (.ref li) (.ref h'.length) (.ref (h'.length + 1)) (.d (.t (aIs a))) (.bool hd) (.ref (h'.length + 2)) lt)) (e1 : h = s3 h' T F R) (e2 : R.length + r2.length ≤ 8) (e3 : R.Nodup) (e4 : (hd = true → ∃ l ∈ a, l ∈ T)) (e5 : (∀ l ∈ a, l ∈ r2 ∨ (l ∈ T ∧ hd = true) ∨ -l ∈ T ∨ l ∈ R)) (e6 : (∀ l ∈ R, l ∈ a ∧ l ∉ T ∧ -l ∉ T)) (e7 : ∀ l ∈ r2, l ∈ a) : I8c n ci li C L h' T F a r2 m h
theorem fn_lf (Γ : Gam) : FnOk Γ 11 SpLF := by
  rintro vs h r h' ⟨n, ci, li, C, L, b, rfl, hn, hci, hli, hC, hL, oC, oL, rfl, hb, rfl⟩
  refine ⟨rfl, by simp, ?_⟩
  have e : initLoc (localsAt 11) (paramsAt 11) [.ref ci, .ref li] = (E8a (.ref ci) (.ref li) .undef .undef .undef .undef .undef .undef) := by rfl
  have hbc := lsAt_lt hci
  have hbl := lsAt_lt hli
  have b1 : ci < h'.length + 1 := by lia
  have b2 : li < h'.length + 1 := by lia
  have b3 : ci < h'.length + 2 := by lia
  have b4 : li < h'.length + 2 := by lia
  have b5 : ci < h'.length + 3 := by lia
  have b6 : li < h'.length + 3 := by lia
  have t1 : h'.length < h'.length + 1 := by lia
  have t2 : h'.length < h'.length + 2 := by lia
  have t3 : h'.length < h'.length + 3 := by lia
  have f2 : h'.length + 1 < h'.length + 2 := by lia
  have f3 : h'.length + 1 < h'.length + 3 := by lia
  have r3 : h'.length + 2 < h'.length + 3 := by lia
  rw [e]
  conv in bodyAt 11 => whnf
  ((try simp only [evB_cons, evS_Assign, evE_Call, evEs_cons, fE_ap, evE_Name, E8a_g1, kNm_some, ne_eq, reduceCtorEq, not_false_eq_true, kE1_ap, evEs_nil, kE2_ap, kCa_ap, true_and]); try (refine retQ ?_; try simp only [List.take_length, and_true, true_and]))
  refine cf_set hli (by lia) ?_
  ((try simp only [kAs_ap, hasL, E8a_g2, Option.isSome_some, E8a_s2, kB_next, evB_cons, true_and]); try (refine retQ ?_; try simp only [List.take_length, and_true, true_and]))
  rw [show (h' ++ [O.set (lDed L)]) = s1 h' (lDed L) from rfl]
  have oD : ∀ {T : List Int} {l : Int}, (∀ l ∈ T, Der C L l) → l ∈ T → Der C L l := fun h h2 => h _ h2
  have hfalse : ¬ Fails C L → b = false := fun q => by
    cases b with
    | false => rfl
    | true => exact (q (hb.mp rfl)).elim
  ((try simp only [evS_While, kB_ret, evB_cons, evS_Assign, evE_Call, evEs_nil, kCa_ap, cf_set0, kAs_ap, hasL, kB_next, evS_ForAssign, evE_Name, evB_nil, evT_Const, evE_bool, kTB_ap, if_true]); try (refine retQ ?_; try simp only [List.take_length, and_true, true_and, evS_While]))
  refine ⟨(I8a n ci li C L h'), _, ⟨_, _, _, _, _, _, rfl, rfl, rfl, fun l hl => .base (mem_lDed.mp hl), fun l hl => mem_lDed.mpr hl, nodup_lUni .nil, fun l hl => oL l (mem_lDed.mp hl)⟩, ?_⟩
  · rintro k m h ⟨T, f, c, hd, fr, lt, rfl, rfl, rfl, hT, hLT, hTn, hTo⟩
    have hT4 : T.length ≤ 7 := small_len hn hTn hTo
    ((try simp only [s1_len, Nat.reduceLeDiff, E8a_g3, Option.isSome_some, E8a_s3, E8a_g0, kNm_some, ne_eq, reduceCtorEq, not_false_eq_true, kFor_ap, true_and]); try (refine retQ ?_; try simp only [List.take_length, and_true, true_and, s1_len]))
    rw [show (s1 h' T ++ [O.set []]) = s2 h' T [] from rfl]
    refine ⟨Nat.le_refl _, ?_⟩
    refine forV_cls (s2_old hci) (by lia) (I8b n ci li C L h' T) ?_ ?_ ?_ ?_
    · exact ⟨[], _, _, _, _, rfl, rfl, .nil, by simp, fun c hc => .inl hc, fun c hc => hc⟩
    · rintro r m h ⟨F, c, hd, fr, lt, rfl, rfl, -⟩
      exact s2_old hci
    · rintro a r m h ⟨F, c, hd, fr, lt, rfl, rfl, hFn, hF, hr, hs⟩
      have haC := hs a (.head _)
      obtain ⟨hal, ha⟩ := oC a haC
      have hF7 : F.length ≤ 7 := small_len hn hFn fun l hl => (hF l hl).2.1
      ((try simp only [hasL, E8a_g4, Option.isSome_some, E8a_s4, s2_len, evB_cons, evS_Assign, evE_bool, kAs_ap, E8a_g5, E8a_s5, kB_next, evE_Call, evEs_nil, kCa_ap, cf_set0, E8a_g6, E8a_s6, evS_ForCmp, evE_Name, kNm_some, ne_eq, reduceCtorEq, not_false_eq_true, kFor_ap, true_and]); try (refine retQ ?_; try simp only [List.take_length, and_true, true_and, s2_len]))
      rw [show (s2 h' T F ++ [O.set []]) = s3 h' T F [] from rfl]
      refine forV_tup (I8c n ci li C L h' T F a) ?_ ?_ ?_
      · exact ⟨false, [], _, rfl, rfl, by simpa using hal, by simp, by simp, fun l hl => .inl hl, by simp, fun l hl => hl⟩
      · rintro l r2 m h ⟨hd, R, lt, rfl, rfl, hR, hRn, hhd, har, hRa, hs2⟩
        rw [List.length_cons] at hR
        ((try simp only [hasL, E8a_g7, Option.isSome_some, E8a_s7, s3_len, evB_cons, evS_If, evT_Compare, evE_Name, kNm_some, ne_eq, reduceCtorEq, not_false_eq_true, kTC1_ap, E8a_g2, kTC2_ap, true_and]); try (refine retQ ?_; try simp only [List.take_length, and_true, true_and, s3_len]))
        refine cmp_in s3_T (by lia) ?_
        ((try simp only [kTC3_ap, kIf_ap, evB_cons, evS_Assign, evE_bool, kAs_ap, hasL, E8a_g5, Option.isSome_some, E8a_s5, kB_next, evB_nil, kTu_next, true_and, evS_If, evT_Compare, evE_Unary, evE_Name, E8a_g7, kNm_some, ne_eq, reduceCtorEq, not_false_eq_true, kUn_ap, unop_neg, kV_ap, kTC1_ap, E8a_g2, kTC2_ap]); try (refine retQ ?_; try simp only [List.take_length, and_true, true_and]))
        by_cases hlT : l ∈ T
        · rw [if_pos (by simpa using hlT), s3_take3]
          refine ⟨_, ?_, true, R, .undef, rfl, rfl, by lia, hRn, fun _ => ⟨l, hs2 l (.head _), hlT⟩, fun k hk => ?_, hRa, fun k hk => hs2 k (.tail _ hk)⟩
          · (repeat' (first | exact weak_nil | exact trivial | assumption | apply weak_drop | apply weak_keep))
          · rcases har k hk with t | t | t
            · rcases List.mem_cons.mp t with rfl | t
              · exact .inr (.inl ⟨hlT, rfl⟩)
              · exact .inl t
            · exact .inr (.inl ⟨t.1, rfl⟩)
            · exact .inr (.inr t)
        · rw [if_neg (by simpa using hlT)]
          refine cmp_notin s3_T (by lia) ?_
          ((try simp only [kTC3_ap, kIf_ap, evB_cons, evS_Expr, evE_Meth, evE_Name, E8a_g6, kNm_some, ne_eq, reduceCtorEq, not_false_eq_true, kM1_ap, evEs_cons, fE_ap, E8a_g7, kE1_ap, evEs_nil, kE2_ap, kM2_ap, true_and, evB_nil, kB_next, kTu_next]); try (refine retQ ?_; try simp only [List.take_length, and_true, true_and]))
          by_cases hlN : -l ∈ T
          · rw [if_neg (by simpa using hlN), s3_take3]
            refine ⟨_, ?_, hd, R, .undef, rfl, rfl, by lia, hRn, hhd, fun k hk => ?_, hRa, fun k hk => hs2 k (.tail _ hk)⟩
            · (repeat' (first | exact weak_nil | exact trivial | assumption | apply weak_drop | apply weak_keep))
            · rcases har k hk with t | t
              · rcases List.mem_cons.mp t with rfl | t
                · exact .inr (.inr (.inl hlN))
                · exact .inl t
              · exact .inr t
          · rw [if_pos (by simpa using hlN)]
            refine ⟨mo_add s3_R, m_add s3_R (by lia) ?_⟩
            ((try simp only [kX_ap, kB_next, evB_nil, kTu_next]); try (refine retQ ?_; try simp only [List.take_length, and_true, true_and]))
            rw [s3_setR, s3_take3]
            have := len_lIns (s := R) (k := l)
            refine ⟨_, ?_, hd, lIns R l, .undef, rfl, rfl, by lia, nodup_lIns hRn, hhd, fun k hk => ?_, fun k hk => ?_, fun k hk => hs2 k (.tail _ hk)⟩
            · (repeat' (first | exact weak_nil | exact trivial | assumption | apply weak_drop | apply weak_keep))
            · rcases har k hk with t | t | t | t
              · rcases List.mem_cons.mp t with rfl | t
                · exact .inr (.inr (.inr (mem_lIns.mpr (.inr rfl))))
                · exact .inl t
              · exact .inr (.inl t)
              · exact .inr (.inr (.inl t))
              · exact .inr (.inr (.inr (mem_lIns.mpr (.inl t))))
            · rcases mem_lIns.mp hk with t | rfl
              · exact hRa k t
              · exact ⟨hs2 k (.head _), hlT, hlN⟩
      · rintro m h ⟨hd, R, lt, rfl, rfl, hR, hRn, hhd, har, hRa, -⟩
        have har : ∀ l ∈ a, (l ∈ T ∧ hd = true) ∨ -l ∈ T ∨ l ∈ R := fun l hl => (har l hl).resolve_left (by simp)
        have hr' : ∀ F' : List Int, (∀ l ∈ F, l ∈ F') → (F' ≠ [] ∨ (∃ l ∈ a, l ∈ T) ∨ ∃ l₁ ∈ a, ∃ l₂ ∈ a, l₁ ≠ l₂ ∧ -l₁ ∉ T ∧ -l₂ ∉ T) → ∀ c ∈ C, c ∈ r ∨ F' ≠ [] ∨ (∃ l ∈ c, l ∈ T) ∨ ∃ l₁ ∈ c, ∃ l₂ ∈ c, l₁ ≠ l₂ ∧ -l₁ ∉ T ∧ -l₂ ∉ T := by
          intro F' hFF q c hc
          rcases hr c hc with t | t | t
          · rcases List.mem_cons.mp t with rfl | t
            · exact .inr q
            · exact .inl t
          · refine .inr (.inl fun z => ?_)
            cases F with
            | nil => exact t rfl
            | cons x _ => have := hFF x (.head _); rw [z] at this; cases this
          · exact .inr (.inr t)
        ((try simp only [kB_next, evB_cons, evS_If, evT_BoolOp, all_and, fT_ap, evT_Not, evT_Name, evE_Name, E8a_g5, kNm_some, ne_eq, reduceCtorEq, not_false_eq_true, kTB_ap, kNot_ap, kAnd_ap, evT_Compare, evE_Call, evEs_cons, fE_ap, E8a_g6, kE1_ap, evEs_nil, kE2_ap, kCa_ap, true_and, kIf_ap, Bool.false_eq_true, evS_Return, evE_bool, kR_ap, kB_ret, kTu_ret, evB_nil, evS_Aug, E8a_g3, kA0_ap, kA1_ap, kTu_next, if_false]); try (refine retQ ?_; try simp only [List.take_length, and_true, true_and]))
        cases hd with
        | true =>
          ((try simp only [Bool.not_true, Bool.false_eq_true, if_false]); try (refine retQ ?_; try simp only [List.take_length, and_true, true_and, Bool.not_true]))
          rw [s3_take2]
          refine ⟨_, ?_, F, .undef, .undef, .undef, .undef, rfl, rfl, hFn, hF, hr' F (fun l hl => hl) (.inr (.inl (hhd rfl))), fun c hc => hs c (.tail _ hc)⟩
          (repeat' (first | exact weak_nil | exact trivial | assumption | apply weak_drop | apply weak_keep))
        | false =>
          have har : ∀ l ∈ a, -l ∈ T ∨ l ∈ R := fun l hl => (har l hl).resolve_left (by simp)
          ((try simp only [Bool.not_false, if_true]); try (refine retQ ?_; try simp only [List.take_length, and_true, true_and, Bool.not_false]))
          refine cf_lenS s3_R (by lia) ?_
          ((try simp only [kTC1_ap, evE_int, kTC2_ap, cmp_eq, kTC3_ap, kAnd_ap, all_and_nil, kIf_ap, evB_cons, evS_Return, evE_bool, kR_ap, kB_ret, kTu_ret, evB_nil, kB_next, evS_If, evT_BoolOp, all_and, fT_ap, evT_Not, evT_Name, evE_Name, E8a_g5, kNm_some, ne_eq, reduceCtorEq, not_false_eq_true, kTB_ap, kNot_ap, evT_Compare, evE_Call, evEs_cons, fE_ap, E8a_g6, kE1_ap, evEs_nil, kE2_ap, kCa_ap, true_and, Bool.false_eq_true, evS_Aug, E8a_g3, kA0_ap, kA1_ap, kTu_next, if_false, if_true]); try (refine retQ ?_; try simp only [List.take_length, and_true, true_and]))
          match R, hR, hRn, har, hRa with
          | [], hR, hRn, har, hRa =>
            have : b = true := hb.mpr (.inr ⟨a, haC, fun l hl => hT _ ((har l hl).resolve_right (by simp))⟩)
            rw [this]
            ((try simp only [List.length_nil]); try (refine retQ ?_; try simp only [List.take_length, and_true, true_and]))
            exact ⟨rfl, trivial, Nat.le_refl _, s3_take0.symm⟩
          | [g], hR, hRn, har, hRa =>
            obtain ⟨g1, g2, g3⟩ := hRa g (.head _)
            rw [if_neg (by simp)]
            ((try simp only [Bool.not_false, if_true]); try (refine retQ ?_; try simp only [List.take_length, and_true, true_and, Bool.not_false, Bool.not_true]))
            refine cf_lenS s3_R (by lia) ?_
            ((try simp only [List.length_cons, List.length_nil, Nat.reduceAdd, kTC1_ap, evE_int, kTC2_ap, cmp_eq, kTC3_ap, kAnd_ap, all_and_nil, kIf_ap, evB_cons, evS_Aug, E8a_g3, kA0_ap, ne_eq, reduceCtorEq, not_false_eq_true, evE_Name, E8a_g6, kNm_some, kA1_ap, true_and, evB_nil, kB_next, kTu_next, if_true, Bool.false_eq_true, if_false]); try (refine retQ ?_; try simp only [List.take_length, and_true, true_and]))
            rw [if_pos (by simp)]
            (try (refine retQ ?_; try simp only [List.take_length, and_true, true_and, Bool.not_false, Bool.not_true]))
            refine in_ior s3_F s3_R (by lia) (by simp; lia) ?_
            ((try simp only [kA2_ap, E8a_s3, kB_next, evB_nil, kTu_next]); try (refine retQ ?_; try simp only [List.take_length, and_true, true_and]))
            rw [s3_setF, s3_take2]
            have := len_lUni (s := F) (t := [g])
            rw [List.length_singleton] at this
            refine ⟨_, ?_, lUni F [g], .undef, .undef, .undef, .undef, rfl, rfl, nodup_lUni hFn, fun l hl => ?_, hr' _ (fun l hl => mem_lUni.mpr (.inl hl)) (.inl fun z => ?_), fun c hc => hs c (.tail _ hc)⟩
            · (repeat' (first | exact weak_nil | exact trivial | assumption | apply weak_drop | apply weak_keep))
            · rcases mem_lUni.mp hl with t | t
              · exact hF l t
              · rw [List.mem_singleton.mp t]
                exact ⟨.unit haC g1 fun l' hl' hne => hT _ ((har l' hl').resolve_right fun q => hne (List.mem_singleton.mp q)), ha g g1, g2⟩
            · have : g ∈ lUni F [g] := mem_lUni.mpr (.inr (.head _))
              rw [z] at this; cases this
          | g :: g' :: R', hR, hRn, har, hRa =>
            rw [if_neg (by simp; lia)]
            ((try simp only [Bool.not_false, if_true]); try (refine retQ ?_; try simp only [List.take_length, and_true, true_and, Bool.not_false, Bool.not_true]))
            refine cf_lenS s3_R (by lia) ?_
            ((try simp only [List.length_cons, kTC1_ap, evE_int, kTC2_ap, cmp_eq, kTC3_ap, kAnd_ap, all_and_nil, kIf_ap, evB_cons, evS_Aug, E8a_g3, kA0_ap, ne_eq, reduceCtorEq, not_false_eq_true, evE_Name, E8a_g6, kNm_some, kA1_ap, true_and, evB_nil, kB_next, kTu_next, if_true, Bool.false_eq_true, if_false]); try (refine retQ ?_; try simp only [List.take_length, and_true, true_and]))
            rw [if_neg (by simp; lia), s3_take2]
            refine ⟨_, ?_, F, .undef, .undef, .undef, .undef, rfl, rfl, hFn, hF, hr' F (fun l hl => hl) (.inr (.inr ⟨g, (hRa g (.head _)).1, g', (hRa g' (.tail _ (.head _))).1, ?_, (hRa g (.head _)).2.2, (hRa g' (.tail _ (.head _))).2.2⟩)), fun c hc => hs c (.tail _ hc)⟩
            · (repeat' (first | exact weak_nil | exact trivial | assumption | apply weak_drop | apply weak_keep))
            · rintro rfl
              simp at hRn
    · rintro m h ⟨F, c, hd, fr, lt, rfl, rfl, hFn, hF, hr, -⟩
      have hr : ∀ c ∈ C, F ≠ [] ∨ (∃ l ∈ c, l ∈ T) ∨ ∃ l₁ ∈ c, ∃ l₂ ∈ c, l₁ ≠ l₂ ∧ -l₁ ∉ T ∧ -l₂ ∉ T := fun c hc => (hr c hc).resolve_left (by simp)
      have hU := len_lUni (s := T) (t := F)
      have hTD : ∀ l ∈ lUni T F, Der C L l := fun l hl => (mem_lUni.mp hl).elim (hT l) (fun q => (hF l q).1)
      have hF7 : F.length ≤ 7 := small_len hn hFn fun l hl => (hF l hl).2.1
      ((try simp only [kB_next, evB_cons, evS_Aug, E8a_g2, kA0_ap, ne_eq, reduceCtorEq, not_false_eq_true, evE_Name, E8a_g3, kNm_some, kA1_ap, true_and]); try (refine retQ ?_; try simp only [List.take_length, and_true, true_and]))
      refine in_ior s2_T s2_F (by lia) (by lia) ?_
      ((try simp only [kA2_ap, E8a_s2, kB_next, evB_cons]); try (refine retQ ?_; try simp only [List.take_length, and_true, true_and]))
      rw [s2_setT]
      ((try simp only [evS_ForNeg, ne_eq, ofString_inj, String.reduceEq, not_false_eq_true, hasL, E8a_g7, Option.isSome_some, E8a_g2, E8a_s7, true_and]); try (refine retQ ?_; try simp only [List.take_length, and_true, true_and, evS_ForNeg]))
      rw [s2_T]
      ((try simp only []); try (refine retQ ?_; try simp only [List.take_length, and_true, true_and]))
      refine ⟨by lia, ?_⟩
      (try (refine retQ ?_; try simp only [List.take_length, and_true, true_and]))
      by_cases hany : (lUni T F).any (fun l => decide (-l ∈ lUni T F)) = true
      · rw [if_pos hany]
        ((try simp only [kB_ret]); try (refine retQ ?_; try simp only [List.take_length, and_true, true_and]))
        have : b = true := by
          obtain ⟨l, hl, hn⟩ := List.any_eq_true.mp hany
          exact hb.mpr (.inl ⟨l, hTD l hl, hTD _ (by simpa using hn)⟩)
        rw [this]
        exact ⟨rfl, trivial, Nat.le_refl _, s2_take0.symm⟩
      · rw [if_neg hany]
        ((try simp only [kB_next, evB_cons, evS_If, evT_Compare, evE_Call, evEs_cons, fE_ap, evE_Name, E8a_g3, kNm_some, ne_eq, reduceCtorEq, not_false_eq_true, kE1_ap, evEs_nil, kE2_ap, kCa_ap, true_and]); try (refine retQ ?_; try simp only [List.take_length, and_true, true_and]))
        refine cf_lenS s2_F (by lia) ?_
        ((try simp only [kTC1_ap, evE_int, kTC2_ap, cmp_eq, kTC3_ap, kIf_ap, evB_cons, evS_Return, evE_bool, kR_ap, kB_ret, evB_nil, kB_next]); try (refine retQ ?_; try simp only [List.take_length, and_true, true_and]))
        have hany : ∀ l ∈ lUni T F, -l ∉ lUni T F := fun l hl hn => hany (List.any_eq_true.mpr ⟨l, hl, by simpa using hn⟩)
        cases F with
        | nil =>
          rw [hfalse (not_fails (fun l => l ∈ T) hLT (fun l t n => hany l (mem_lUni.mpr (.inl t)) (mem_lUni.mpr (.inl n))) fun c hc => (hr c hc).resolve_left (by simp))]
          ((try simp only [List.length_nil]); try (refine retQ ?_; try simp only [List.take_length, and_true, true_and]))
          exact ⟨rfl, trivial, Nat.le_refl _, s2_take0.symm⟩
        | cons f0 F =>
          rw [if_neg (by simp; lia), s2_take1]
          have hf0 := hF f0 (.head _)
          have hlt := room_lt (F := f0 :: F) hf0.2.1 (.head _) hf0.2.2
          refine ⟨_, _, hlt, ?_, lUni T (f0 :: F), .undef, .undef, .undef, .undef, .undef, rfl, rfl, rfl, hTD, fun l hl => mem_lUni.mpr (.inl (hLT l hl)), nodup_lUni hTn, fun l hl => (mem_lUni.mp hl).elim (hTo l) fun q => (hF l q).2.1⟩
          (repeat' (first | exact weak_nil | exact trivial | assumption | apply weak_drop | apply weak_keep))
end Mine

/-! L2 -/
namespace Mine
open PySem

theorem satm_neg {m : Nat} {l : Int} (h : l ≠ 0) : satm m (-l) = !satm m l := by
  unfold satm
  rw [Int.natAbs_neg]
  have : decide (0 < -l) = !decide (0 < l) := by
    by_cases q : 0 < l
    · rw [decide_eq_true q, decide_eq_false (by lia)]; rfl
    · rw [decide_eq_false q, decide_eq_true (by lia)]; rfl
  rw [this]
  cases m.testBit (l.natAbs - 1) <;> cases decide (0 < l) <;> rfl

theorem Der.ok {n : Nat} {C : List (List Int)} {L : List Int} (hC : ∀ c ∈ C, OkC n c) (hL : OkC n L) {l : Int} (d : Der C L l) : OkL n l := by
  induction d with
  | base h => exact hL _ h
  | unit hc hl _ _ => exact hC _ hc _ hl

theorem Der.sat {n m : Nat} {C : List (List Int)} {L : List Int} (hC : ∀ c ∈ C, OkC n c) (hL : OkC n L) (sC : ∀ c ∈ C, satc m c = true) (sL : ∀ l ∈ L, satm m l = true) {l : Int} (d : Der C L l) : satm m l = true := by
  induction d with
  | base h => exact sL _ h
  | @unit c l hc hl _ ih =>
    obtain ⟨k, hk, s⟩ := List.any_eq_true.mp (sC c hc)
    by_cases e : k = l
    · rwa [← e]
    · have := ih k hk e
      rw [satm_neg (hC c hc k hk).1, s] at this
      cases this
theorem Fails.not {n m : Nat} {C : List (List Int)} {L : List Int} (hC : ∀ c ∈ C, OkC n c) (hL : OkC n L) (sC : ∀ c ∈ C, satc m c = true) (sL : ∀ l ∈ L, satm m l = true) : ¬ Fails C L := by
  rintro (⟨l, a, b⟩ | ⟨c, hc, h⟩)
  · have s := b.sat hC hL sC sL
    rw [satm_neg (a.ok hC hL).1, a.sat hC hL sC sL] at s
    cases s
  · obtain ⟨k, hk, s⟩ := List.any_eq_true.mp (sC c hc)
    have := (h k hk).sat hC hL sC sL
    rw [satm_neg (hC c hc k hk).1, s] at this
    cases this
theorem Chk.sat {n m : Nat} : ∀ {W K : List (List Int)}, (∀ c ∈ K, OkC n c) → Chk n K W → (∀ c ∈ K, satc m c = true) → ∀ w ∈ W, satc m w = true
  | [], _, _, _, _, w, hw => by cases hw
  | w :: W, K, hK, ⟨h1, h2, h3⟩, sK, w', hw' => by
    have sw : satc m w = true := by
      cases q : satc m w with
      | true => rfl
      | false =>
        refine (Fails.not hK ?_ sK ?_ h2).elim
        · intro l hl
          obtain ⟨k, hk, rfl⟩ := List.mem_map.mp hl
          have := h1 k hk
          exact ⟨by have := this.1; lia, by rw [Int.natAbs_neg]; exact this.2⟩
        · intro l hl
          obtain ⟨k, hk, rfl⟩ := List.mem_map.mp hl
          rw [satm_neg (h1 k hk).1]
          have := List.any_eq_false.mp q k hk
          simpa using this
    rcases List.mem_cons.mp hw' with rfl | hw'
    · exact sw
    · refine Chk.sat (K := K ++ [w]) ?_ h3 ?_ w' hw'
      · intro c hc
        rcases List.mem_append.mp hc with hc | hc
        · exact hK c hc
        · rw [List.mem_singleton.mp hc]; exact h1
      · intro c hc
        rcases List.mem_append.mp hc with hc | hc
        · exact sK c hc
        · rw [List.mem_singleton.mp hc]; exact sw
theorem Takes.unsat {n : Nat} {C W : List (List Int)} (h : Takes n C W) : Unsat n C := by
  intro m _
  cases q : C.all (satc m) with
  | false => rfl
  | true =>
    have := h.2.1.sat h.1 (fun c hc => List.all_eq_true.mp q c hc) [] (List.mem_of_getLast? h.2.2)
    cases this
theorem Chk.ok {n : Nat} : ∀ {W K : List (List Int)}, Chk n K W → ∀ w ∈ W, OkC n w
  | [], _, _, w, hw => by cases hw
  | w :: W, K, ⟨h1, h2, h3⟩, w', hw' => by
    rcases List.mem_cons.mp hw' with rfl | hw'
    · exact h1
    · exact Chk.ok h3 w' hw'

/-! the full row of clauses is taken -/
theorem Der.mono {C C' : List (List Int)} {L : List Int} (h : ∀ c ∈ C, c ∈ C') {l : Int} (d : Der C L l) : Der C' L l := by
  induction d with
  | base h => exact .base h
  | unit hc hl _ ih => exact .unit (h _ hc) hl ih
theorem Fails.mono {C C' : List (List Int)} {L : List Int} (h : ∀ c ∈ C, c ∈ C') : Fails C L → Fails C' L := by
  rintro (⟨l, a, b⟩ | ⟨c, hc, q⟩)
  · exact .inl ⟨l, a.mono h, b.mono h⟩
  · exact .inr ⟨c, h c hc, fun l hl => (q l hl).mono h⟩
theorem chk_all {n : Nat} : ∀ {A K : List (List Int)}, (∀ w ∈ A, OkC n w ∧ Fails K (w.map fun l => -l)) → Chk n K A
  | [], _, _ => trivial
  | w :: A, K, h => ⟨(h w (.head _)).1, (h w (.head _)).2, chk_all fun w' hw' => ⟨(h w' (.tail _ hw')).1, (h w' (.tail _ hw')).2.mono fun c hc => List.mem_append_left _ hc⟩⟩
theorem chk_app {n : Nat} : ∀ {A B K : List (List Int)}, Chk n K A → Chk n (K ++ A) B → Chk n K (A ++ B)
  | [], B, K, _, h => by rwa [List.append_nil] at h
  | w :: A, B, K, ⟨a, b, c⟩, h => ⟨a, b, chk_app c (by rw [List.append_assoc]; exact h)⟩

theorem caseC_ok {n : Nat} {W : List Int} (hW : ∀ x ∈ W, OkL n x) {k mark : Nat} (hk : k ≤ W.length) : OkC n (caseC W k mark) := by
  intro l hl
  obtain ⟨j, hj, rfl⟩ := List.mem_map.mp hl
  have hj := List.mem_range.mp hj
  have : OkL n (W.getD j 0) := by
    rw [List.getD_eq_getElem?_getD, List.getElem?_eq_getElem (by lia)]
    exact hW _ (List.getElem_mem _)
  split
  · exact this
  · exact ⟨by have := this.1; lia, by rw [Int.natAbs_neg]; exact this.2⟩
theorem caseC_snoc (W : List Int) (k mark : Nat) : caseC W (k + 1) mark = caseC W k mark ++ [if mark.testBit k = true then W.getD k 0 else -W.getD k 0] := by
  unfold caseC
  rw [List.range_succ, List.map_append]; rfl
theorem caseC_high {W : List Int} {k mark : Nat} : caseC W k (2 ^ k + mark) = caseC W k mark := by
  unfold caseC
  apply List.map_congr_left
  intro j hj
  rw [Nat.testBit_two_pow_add_gt (List.mem_range.mp hj)]
theorem mem_casesS {W : List Int} {t k mark : Nat} (h : mark < 2 ^ k) : caseC W k mark ∈ casesS W t k := by
  have ht : t % 2 ^ k < 2 ^ k := Nat.mod_lt _ (Nat.pow_pos (by decide))
  refine List.mem_map.mpr ⟨mark ^^^ (t % 2 ^ k), List.mem_range.mpr (Nat.xor_lt_two_pow h ht), ?_⟩
  rw [Nat.xor_assoc, Nat.xor_self, Nat.xor_zero]
theorem downs_succ (k : Nat) : downs (k + 1) = (k + 1) :: downs k := by
  unfold downs
  rw [List.range_succ_eq_map, List.map_cons, List.map_map]
  congr 1
  apply List.map_congr_left
  intro i _
  show k + 1 - (i + 1) = k - i
  lia
theorem chk_down {n t : Nat} {W : List Int} (hW : ∀ x ∈ W, OkL n x) : ∀ (k : Nat) (K : List (List Int)), k ≤ W.length → (∀ mark < 2 ^ k, Fails K ((caseC W k mark).map fun l => -l)) → Chk n K ((downs k).flatMap (casesS W t))
  | 0, K, hk, h => by
    show Chk n K (casesS W t 0 ++ [])
    rw [List.append_nil]
    refine chk_all fun w hw => ?_
    obtain ⟨m, hm, rfl⟩ := List.mem_map.mp hw
    exact ⟨caseC_ok hW hk, h _ (Nat.xor_lt_two_pow (List.mem_range.mp hm) (Nat.mod_lt _ (Nat.pow_pos (by decide))))⟩
  | k + 1, K, hk, h => by
    rw [downs_succ, List.flatMap_cons]
    refine chk_app (chk_all fun w hw => ?_) (chk_down hW k _ (by lia) fun mark hm => ?_)
    · obtain ⟨m, hm, rfl⟩ := List.mem_map.mp hw
      exact ⟨caseC_ok hW hk, h _ (Nat.xor_lt_two_pow (List.mem_range.mp hm) (Nat.mod_lt _ (Nat.pow_pos (by decide))))⟩
    · have p : 2 ^ (k + 1) = 2 ^ k + 2 ^ k := by rw [Nat.pow_succ]; lia
      have m1 : caseC W (k + 1) mark ∈ K ++ casesS W t (k + 1) := List.mem_append_right _ (mem_casesS (by lia))
      have m2 : caseC W (k + 1) (2 ^ k + mark) ∈ K ++ casesS W t (k + 1) := List.mem_append_right _ (mem_casesS (by lia))
      rw [caseC_snoc, Nat.testBit_lt_two_pow hm, if_neg (by decide)] at m1
      rw [caseC_snoc, caseC_high, Nat.testBit_two_pow_add_eq, Nat.testBit_lt_two_pow hm, Bool.not_false, if_pos rfl] at m2
      have un : ∀ x : Int, caseC W k mark ++ [x] ∈ K ++ casesS W t (k + 1) → Der (K ++ casesS W t (k + 1)) ((caseC W k mark).map fun l => -l) x := by
        intro x hx
        refine .unit hx (by simp) fun l hl hne => .base ?_
        rcases List.mem_append.mp hl with hl | hl
        · exact List.mem_map.mpr ⟨l, hl, rfl⟩
        · exact (hne (List.mem_singleton.mp hl)).elim
      exact .inl ⟨_, un _ m2, un _ m1⟩

theorem bits (f : Nat → Bool) : ∀ n, ∃ m < 2 ^ n, ∀ v < n, m.testBit v = f v
  | 0 => ⟨0, by decide, fun v hv => by lia⟩
  | n + 1 => by
    obtain ⟨m, hm, h⟩ := bits f n
    have p : 2 ^ (n + 1) = 2 ^ n + 2 ^ n := by rw [Nat.pow_succ]; lia
    cases q : f n with
    | true =>
      refine ⟨2 ^ n + m, by lia, fun v hv => ?_⟩
      by_cases e : v = n
      · subst e; rw [Nat.testBit_two_pow_add_eq, Nat.testBit_lt_two_pow hm, q]; rfl
      · rw [Nat.testBit_two_pow_add_gt (by lia)]; exact h v (by lia)
    | false =>
      refine ⟨m, by lia, fun v hv => ?_⟩
      by_cases e : v = n
      · subst e; rw [Nat.testBit_lt_two_pow hm, q]
      · exact h v (by lia)

/-- an order of the variables -/
structure Ord (n : Nat) (W : List Int) : Prop where
  len : W.length = n
  ok : ∀ x ∈ W, OkL n x ∧ 0 < x
  all : ∀ v : Nat, 0 < v → v ≤ n → (v : Int) ∈ W

theorem full_taken {n t : Nat} {C : List (List Int)} {W : List Int} (hC : ∀ c ∈ C, OkC n c) (hW : Ord n W) (hU : Unsat n C) : Takes n C (casesF W t) := by
  refine ⟨hC, ?_, ?_⟩
  · unfold casesF
    refine chk_down (fun x hx => (hW.ok x hx).1) _ _ (Nat.le_refl _) fun mark _ => ?_
    obtain ⟨m, hm, hb⟩ := bits (fun v => !mark.testBit (W.idxOf ((v + 1 : Nat) : Int))) n
    have hf := hU m hm
    rw [List.all_eq_false] at hf
    obtain ⟨c, hc, hs⟩ := hf
    refine .inr ⟨c, hc, fun l hl => .base (List.mem_map.mpr ⟨l, ?_, rfl⟩)⟩
    have hlo := hC c hc l hl
    have hl0 := hlo.1
    have hl1 := hlo.2
    have hsl : satm m l = false := by
      have := (List.any_eq_false (p := satm m) (l := c)).mp (by simpa [satc] using hs) l hl
      simpa using this
    have hlp : 1 ≤ l.natAbs := Int.natAbs_pos.mpr hl0
    have hmem := hW.all l.natAbs hlp hl1
    have hidx : W.idxOf (l.natAbs : Int) < W.length := List.idxOf_lt_length_of_mem hmem
    have hget : W.getD (W.idxOf (l.natAbs : Int)) 0 = (l.natAbs : Int) := by
      rw [List.getD_eq_getElem?_getD, List.getElem?_eq_getElem hidx]
      simp
    unfold satm at hsl
    rw [hb (l.natAbs - 1) (Nat.lt_of_lt_of_le (Nat.sub_lt hlp Nat.one_pos) hl1), Nat.sub_add_cancel hlp] at hsl
    refine List.mem_map.mpr ⟨W.idxOf (l.natAbs : Int), List.mem_range.mpr hidx, ?_⟩
    rw [hget]
    by_cases q : 0 < l
    · rw [decide_eq_true q] at hsl
      have : mark.testBit (W.idxOf (l.natAbs : Int)) = true := by simpa using hsl
      rw [if_pos this]; lia
    · rw [decide_eq_false q] at hsl
      have : mark.testBit (W.idxOf (l.natAbs : Int)) = false := by simpa using hsl
      rw [if_neg (by rw [this]; decide)]; lia
  · unfold casesF
    have : ∀ k, ((downs k).flatMap (casesS W t)).getLast? = some [] := by
      intro k
      induction k with
      | zero => rfl
      | succ k ih => rw [downs_succ, List.flatMap_cons, List.getLast?_append, ih]; rfl
    exact this _
theorem full_iff {n t : Nat} {C : List (List Int)} {W : List Int} (hC : ∀ c ∈ C, OkC n c) (hW : Ord n W) : Takes n C (casesF W t) ↔ Unsat n C :=
  ⟨Takes.unsat, full_taken hC hW⟩
end Mine

/-! P9 -/
namespace Mine
open PySem
noncomputable def ELaw (v0 v1 v2 v3 v4 v5 v6 v7 v8 v9 v10 v11 v12 v13 v14 v15 v16 v17 v18 v19 v20 v21 v22 v23 v24 v25 : V) : Loc := [("script", v0), ("cells", v1), ("pot", v2), ("square", v3), ("count", v4), ("clauses", v5), ("sizes", v6), ("step", v7), ("size", v8), ("clause", v9), ("j", v10), ("literal", v11), ("m", v12), ("spared", v13), ("names", v14), ("order", v15), ("impossible", v16), ("rows", v17), ("literals", v18), ("begun", v19), ("fails", v20), ("at", v21), ("kind", v22), ("bad", v23), ("taken", v24), ("due", v25)]
section
variable {v0 v1 v2 v3 v4 v5 v6 v7 v8 v9 v10 v11 v12 v13 v14 v15 v16 v17 v18 v19 v20 v21 v22 v23 v24 v25 w : V}
theorem ELaw_g1 : lget (ELaw v0 v1 v2 v3 v4 v5 v6 v7 v8 v9 v10 v11 v12 v13 v14 v15 v16 v17 v18 v19 v20 v21 v22 v23 v24 v25) (Str.ofString "cells") = some v1 := (rfl)
theorem ELaw_g2 : lget (ELaw v0 v1 v2 v3 v4 v5 v6 v7 v8 v9 v10 v11 v12 v13 v14 v15 v16 v17 v18 v19 v20 v21 v22 v23 v24 v25) (Str.ofString "pot") = some v2 := (rfl)
theorem ELaw_s2 : lset (ELaw v0 v1 v2 v3 v4 v5 v6 v7 v8 v9 v10 v11 v12 v13 v14 v15 v16 v17 v18 v19 v20 v21 v22 v23 v24 v25) (Str.ofString "pot") w = ELaw v0 v1 w v3 v4 v5 v6 v7 v8 v9 v10 v11 v12 v13 v14 v15 v16 v17 v18 v19 v20 v21 v22 v23 v24 v25 := (rfl)
theorem ELaw_g3 : lget (ELaw v0 v1 v2 v3 v4 v5 v6 v7 v8 v9 v10 v11 v12 v13 v14 v15 v16 v17 v18 v19 v20 v21 v22 v23 v24 v25) (Str.ofString "square") = some v3 := (rfl)
theorem ELaw_s3 : lset (ELaw v0 v1 v2 v3 v4 v5 v6 v7 v8 v9 v10 v11 v12 v13 v14 v15 v16 v17 v18 v19 v20 v21 v22 v23 v24 v25) (Str.ofString "square") w = ELaw v0 v1 v2 w v4 v5 v6 v7 v8 v9 v10 v11 v12 v13 v14 v15 v16 v17 v18 v19 v20 v21 v22 v23 v24 v25 := (rfl)
theorem ELaw_g4 : lget (ELaw v0 v1 v2 v3 v4 v5 v6 v7 v8 v9 v10 v11 v12 v13 v14 v15 v16 v17 v18 v19 v20 v21 v22 v23 v24 v25) (Str.ofString "count") = some v4 := (rfl)
theorem ELaw_s4 : lset (ELaw v0 v1 v2 v3 v4 v5 v6 v7 v8 v9 v10 v11 v12 v13 v14 v15 v16 v17 v18 v19 v20 v21 v22 v23 v24 v25) (Str.ofString "count") w = ELaw v0 v1 v2 v3 w v5 v6 v7 v8 v9 v10 v11 v12 v13 v14 v15 v16 v17 v18 v19 v20 v21 v22 v23 v24 v25 := (rfl)
theorem ELaw_g5 : lget (ELaw v0 v1 v2 v3 v4 v5 v6 v7 v8 v9 v10 v11 v12 v13 v14 v15 v16 v17 v18 v19 v20 v21 v22 v23 v24 v25) (Str.ofString "clauses") = some v5 := (rfl)
theorem ELaw_s5 : lset (ELaw v0 v1 v2 v3 v4 v5 v6 v7 v8 v9 v10 v11 v12 v13 v14 v15 v16 v17 v18 v19 v20 v21 v22 v23 v24 v25) (Str.ofString "clauses") w = ELaw v0 v1 v2 v3 v4 w v6 v7 v8 v9 v10 v11 v12 v13 v14 v15 v16 v17 v18 v19 v20 v21 v22 v23 v24 v25 := (rfl)
theorem ELaw_g6 : lget (ELaw v0 v1 v2 v3 v4 v5 v6 v7 v8 v9 v10 v11 v12 v13 v14 v15 v16 v17 v18 v19 v20 v21 v22 v23 v24 v25) (Str.ofString "sizes") = some v6 := (rfl)
theorem ELaw_s6 : lset (ELaw v0 v1 v2 v3 v4 v5 v6 v7 v8 v9 v10 v11 v12 v13 v14 v15 v16 v17 v18 v19 v20 v21 v22 v23 v24 v25) (Str.ofString "sizes") w = ELaw v0 v1 v2 v3 v4 v5 w v7 v8 v9 v10 v11 v12 v13 v14 v15 v16 v17 v18 v19 v20 v21 v22 v23 v24 v25 := (rfl)
theorem ELaw_g7 : lget (ELaw v0 v1 v2 v3 v4 v5 v6 v7 v8 v9 v10 v11 v12 v13 v14 v15 v16 v17 v18 v19 v20 v21 v22 v23 v24 v25) (Str.ofString "step") = some v7 := (rfl)
theorem ELaw_s7 : lset (ELaw v0 v1 v2 v3 v4 v5 v6 v7 v8 v9 v10 v11 v12 v13 v14 v15 v16 v17 v18 v19 v20 v21 v22 v23 v24 v25) (Str.ofString "step") w = ELaw v0 v1 v2 v3 v4 v5 v6 w v8 v9 v10 v11 v12 v13 v14 v15 v16 v17 v18 v19 v20 v21 v22 v23 v24 v25 := (rfl)
theorem ELaw_g8 : lget (ELaw v0 v1 v2 v3 v4 v5 v6 v7 v8 v9 v10 v11 v12 v13 v14 v15 v16 v17 v18 v19 v20 v21 v22 v23 v24 v25) (Str.ofString "size") = some v8 := (rfl)
theorem ELaw_s8 : lset (ELaw v0 v1 v2 v3 v4 v5 v6 v7 v8 v9 v10 v11 v12 v13 v14 v15 v16 v17 v18 v19 v20 v21 v22 v23 v24 v25) (Str.ofString "size") w = ELaw v0 v1 v2 v3 v4 v5 v6 v7 w v9 v10 v11 v12 v13 v14 v15 v16 v17 v18 v19 v20 v21 v22 v23 v24 v25 := (rfl)
theorem ELaw_g9 : lget (ELaw v0 v1 v2 v3 v4 v5 v6 v7 v8 v9 v10 v11 v12 v13 v14 v15 v16 v17 v18 v19 v20 v21 v22 v23 v24 v25) (Str.ofString "clause") = some v9 := (rfl)
theorem ELaw_s9 : lset (ELaw v0 v1 v2 v3 v4 v5 v6 v7 v8 v9 v10 v11 v12 v13 v14 v15 v16 v17 v18 v19 v20 v21 v22 v23 v24 v25) (Str.ofString "clause") w = ELaw v0 v1 v2 v3 v4 v5 v6 v7 v8 w v10 v11 v12 v13 v14 v15 v16 v17 v18 v19 v20 v21 v22 v23 v24 v25 := (rfl)
theorem ELaw_g10 : lget (ELaw v0 v1 v2 v3 v4 v5 v6 v7 v8 v9 v10 v11 v12 v13 v14 v15 v16 v17 v18 v19 v20 v21 v22 v23 v24 v25) (Str.ofString "j") = some v10 := (rfl)
theorem ELaw_s10 : lset (ELaw v0 v1 v2 v3 v4 v5 v6 v7 v8 v9 v10 v11 v12 v13 v14 v15 v16 v17 v18 v19 v20 v21 v22 v23 v24 v25) (Str.ofString "j") w = ELaw v0 v1 v2 v3 v4 v5 v6 v7 v8 v9 w v11 v12 v13 v14 v15 v16 v17 v18 v19 v20 v21 v22 v23 v24 v25 := (rfl)
theorem ELaw_g11 : lget (ELaw v0 v1 v2 v3 v4 v5 v6 v7 v8 v9 v10 v11 v12 v13 v14 v15 v16 v17 v18 v19 v20 v21 v22 v23 v24 v25) (Str.ofString "literal") = some v11 := (rfl)
theorem ELaw_s11 : lset (ELaw v0 v1 v2 v3 v4 v5 v6 v7 v8 v9 v10 v11 v12 v13 v14 v15 v16 v17 v18 v19 v20 v21 v22 v23 v24 v25) (Str.ofString "literal") w = ELaw v0 v1 v2 v3 v4 v5 v6 v7 v8 v9 v10 w v12 v13 v14 v15 v16 v17 v18 v19 v20 v21 v22 v23 v24 v25 := (rfl)
theorem ELaw_g12 : lget (ELaw v0 v1 v2 v3 v4 v5 v6 v7 v8 v9 v10 v11 v12 v13 v14 v15 v16 v17 v18 v19 v20 v21 v22 v23 v24 v25) (Str.ofString "m") = some v12 := (rfl)
theorem ELaw_s12 : lset (ELaw v0 v1 v2 v3 v4 v5 v6 v7 v8 v9 v10 v11 v12 v13 v14 v15 v16 v17 v18 v19 v20 v21 v22 v23 v24 v25) (Str.ofString "m") w = ELaw v0 v1 v2 v3 v4 v5 v6 v7 v8 v9 v10 v11 w v13 v14 v15 v16 v17 v18 v19 v20 v21 v22 v23 v24 v25 := (rfl)
theorem ELaw_g13 : lget (ELaw v0 v1 v2 v3 v4 v5 v6 v7 v8 v9 v10 v11 v12 v13 v14 v15 v16 v17 v18 v19 v20 v21 v22 v23 v24 v25) (Str.ofString "spared") = some v13 := (rfl)
theorem ELaw_s13 : lset (ELaw v0 v1 v2 v3 v4 v5 v6 v7 v8 v9 v10 v11 v12 v13 v14 v15 v16 v17 v18 v19 v20 v21 v22 v23 v24 v25) (Str.ofString "spared") w = ELaw v0 v1 v2 v3 v4 v5 v6 v7 v8 v9 v10 v11 v12 w v14 v15 v16 v17 v18 v19 v20 v21 v22 v23 v24 v25 := (rfl)
theorem ELaw_g14 : lget (ELaw v0 v1 v2 v3 v4 v5 v6 v7 v8 v9 v10 v11 v12 v13 v14 v15 v16 v17 v18 v19 v20 v21 v22 v23 v24 v25) (Str.ofString "names") = some v14 := (rfl)
theorem ELaw_s14 : lset (ELaw v0 v1 v2 v3 v4 v5 v6 v7 v8 v9 v10 v11 v12 v13 v14 v15 v16 v17 v18 v19 v20 v21 v22 v23 v24 v25) (Str.ofString "names") w = ELaw v0 v1 v2 v3 v4 v5 v6 v7 v8 v9 v10 v11 v12 v13 w v15 v16 v17 v18 v19 v20 v21 v22 v23 v24 v25 := (rfl)
theorem ELaw_g15 : lget (ELaw v0 v1 v2 v3 v4 v5 v6 v7 v8 v9 v10 v11 v12 v13 v14 v15 v16 v17 v18 v19 v20 v21 v22 v23 v24 v25) (Str.ofString "order") = some v15 := (rfl)
theorem ELaw_s15 : lset (ELaw v0 v1 v2 v3 v4 v5 v6 v7 v8 v9 v10 v11 v12 v13 v14 v15 v16 v17 v18 v19 v20 v21 v22 v23 v24 v25) (Str.ofString "order") w = ELaw v0 v1 v2 v3 v4 v5 v6 v7 v8 v9 v10 v11 v12 v13 v14 w v16 v17 v18 v19 v20 v21 v22 v23 v24 v25 := (rfl)
theorem ELaw_g16 : lget (ELaw v0 v1 v2 v3 v4 v5 v6 v7 v8 v9 v10 v11 v12 v13 v14 v15 v16 v17 v18 v19 v20 v21 v22 v23 v24 v25) (Str.ofString "impossible") = some v16 := (rfl)
theorem ELaw_s16 : lset (ELaw v0 v1 v2 v3 v4 v5 v6 v7 v8 v9 v10 v11 v12 v13 v14 v15 v16 v17 v18 v19 v20 v21 v22 v23 v24 v25) (Str.ofString "impossible") w = ELaw v0 v1 v2 v3 v4 v5 v6 v7 v8 v9 v10 v11 v12 v13 v14 v15 w v17 v18 v19 v20 v21 v22 v23 v24 v25 := (rfl)
theorem ELaw_g17 : lget (ELaw v0 v1 v2 v3 v4 v5 v6 v7 v8 v9 v10 v11 v12 v13 v14 v15 v16 v17 v18 v19 v20 v21 v22 v23 v24 v25) (Str.ofString "rows") = some v17 := (rfl)
theorem ELaw_s17 : lset (ELaw v0 v1 v2 v3 v4 v5 v6 v7 v8 v9 v10 v11 v12 v13 v14 v15 v16 v17 v18 v19 v20 v21 v22 v23 v24 v25) (Str.ofString "rows") w = ELaw v0 v1 v2 v3 v4 v5 v6 v7 v8 v9 v10 v11 v12 v13 v14 v15 v16 w v18 v19 v20 v21 v22 v23 v24 v25 := (rfl)
theorem ELaw_g18 : lget (ELaw v0 v1 v2 v3 v4 v5 v6 v7 v8 v9 v10 v11 v12 v13 v14 v15 v16 v17 v18 v19 v20 v21 v22 v23 v24 v25) (Str.ofString "literals") = some v18 := (rfl)
theorem ELaw_s18 : lset (ELaw v0 v1 v2 v3 v4 v5 v6 v7 v8 v9 v10 v11 v12 v13 v14 v15 v16 v17 v18 v19 v20 v21 v22 v23 v24 v25) (Str.ofString "literals") w = ELaw v0 v1 v2 v3 v4 v5 v6 v7 v8 v9 v10 v11 v12 v13 v14 v15 v16 v17 w v19 v20 v21 v22 v23 v24 v25 := (rfl)
theorem ELaw_g19 : lget (ELaw v0 v1 v2 v3 v4 v5 v6 v7 v8 v9 v10 v11 v12 v13 v14 v15 v16 v17 v18 v19 v20 v21 v22 v23 v24 v25) (Str.ofString "begun") = some v19 := (rfl)
theorem ELaw_s19 : lset (ELaw v0 v1 v2 v3 v4 v5 v6 v7 v8 v9 v10 v11 v12 v13 v14 v15 v16 v17 v18 v19 v20 v21 v22 v23 v24 v25) (Str.ofString "begun") w = ELaw v0 v1 v2 v3 v4 v5 v6 v7 v8 v9 v10 v11 v12 v13 v14 v15 v16 v17 v18 w v20 v21 v22 v23 v24 v25 := (rfl)
theorem ELaw_g20 : lget (ELaw v0 v1 v2 v3 v4 v5 v6 v7 v8 v9 v10 v11 v12 v13 v14 v15 v16 v17 v18 v19 v20 v21 v22 v23 v24 v25) (Str.ofString "fails") = some v20 := (rfl)
theorem ELaw_s20 : lset (ELaw v0 v1 v2 v3 v4 v5 v6 v7 v8 v9 v10 v11 v12 v13 v14 v15 v16 v17 v18 v19 v20 v21 v22 v23 v24 v25) (Str.ofString "fails") w = ELaw v0 v1 v2 v3 v4 v5 v6 v7 v8 v9 v10 v11 v12 v13 v14 v15 v16 v17 v18 v19 w v21 v22 v23 v24 v25 := (rfl)
theorem ELaw_g21 : lget (ELaw v0 v1 v2 v3 v4 v5 v6 v7 v8 v9 v10 v11 v12 v13 v14 v15 v16 v17 v18 v19 v20 v21 v22 v23 v24 v25) (Str.ofString "at") = some v21 := (rfl)
theorem ELaw_s21 : lset (ELaw v0 v1 v2 v3 v4 v5 v6 v7 v8 v9 v10 v11 v12 v13 v14 v15 v16 v17 v18 v19 v20 v21 v22 v23 v24 v25) (Str.ofString "at") w = ELaw v0 v1 v2 v3 v4 v5 v6 v7 v8 v9 v10 v11 v12 v13 v14 v15 v16 v17 v18 v19 v20 w v22 v23 v24 v25 := (rfl)
theorem ELaw_g22 : lget (ELaw v0 v1 v2 v3 v4 v5 v6 v7 v8 v9 v10 v11 v12 v13 v14 v15 v16 v17 v18 v19 v20 v21 v22 v23 v24 v25) (Str.ofString "kind") = some v22 := (rfl)
theorem ELaw_s22 : lset (ELaw v0 v1 v2 v3 v4 v5 v6 v7 v8 v9 v10 v11 v12 v13 v14 v15 v16 v17 v18 v19 v20 v21 v22 v23 v24 v25) (Str.ofString "kind") w = ELaw v0 v1 v2 v3 v4 v5 v6 v7 v8 v9 v10 v11 v12 v13 v14 v15 v16 v17 v18 v19 v20 v21 w v23 v24 v25 := (rfl)
theorem ELaw_g23 : lget (ELaw v0 v1 v2 v3 v4 v5 v6 v7 v8 v9 v10 v11 v12 v13 v14 v15 v16 v17 v18 v19 v20 v21 v22 v23 v24 v25) (Str.ofString "bad") = some v23 := (rfl)
theorem ELaw_s23 : lset (ELaw v0 v1 v2 v3 v4 v5 v6 v7 v8 v9 v10 v11 v12 v13 v14 v15 v16 v17 v18 v19 v20 v21 v22 v23 v24 v25) (Str.ofString "bad") w = ELaw v0 v1 v2 v3 v4 v5 v6 v7 v8 v9 v10 v11 v12 v13 v14 v15 v16 v17 v18 v19 v20 v21 v22 w v24 v25 := (rfl)
theorem ELaw_g24 : lget (ELaw v0 v1 v2 v3 v4 v5 v6 v7 v8 v9 v10 v11 v12 v13 v14 v15 v16 v17 v18 v19 v20 v21 v22 v23 v24 v25) (Str.ofString "taken") = some v24 := (rfl)
theorem ELaw_s24 : lset (ELaw v0 v1 v2 v3 v4 v5 v6 v7 v8 v9 v10 v11 v12 v13 v14 v15 v16 v17 v18 v19 v20 v21 v22 v23 v24 v25) (Str.ofString "taken") w = ELaw v0 v1 v2 v3 v4 v5 v6 v7 v8 v9 v10 v11 v12 v13 v14 v15 v16 v17 v18 v19 v20 v21 v22 v23 w v25 := (rfl)
theorem ELaw_g25 : lget (ELaw v0 v1 v2 v3 v4 v5 v6 v7 v8 v9 v10 v11 v12 v13 v14 v15 v16 v17 v18 v19 v20 v21 v22 v23 v24 v25) (Str.ofString "due") = some v25 := (rfl)
theorem ELaw_s25 : lset (ELaw v0 v1 v2 v3 v4 v5 v6 v7 v8 v9 v10 v11 v12 v13 v14 v15 v16 v17 v18 v19 v20 v21 v22 v23 v24 v25) (Str.ofString "due") w = ELaw v0 v1 v2 v3 v4 v5 v6 v7 v8 v9 v10 v11 v12 v13 v14 v15 v16 v17 v18 v19 v20 v21 v22 v23 v24 w := (rfl)
theorem ELaw_b : lget (ELaw v0 v1 v2 v3 v4 v5 v6 v7 v8 v9 v10 v11 v12 v13 v14 v15 v16 v17 v18 v19 v20 v21 v22 v23 v24 v25) (Str.ofString "bool") = none := (rfl)
end

structure GLaw (Γ : Gam) : Prop where
  pick : ∀ vs h r h', SpLP vs h r h' → Γ (Str.ofString "_law_pick") vs h r h'
  cases : ∀ vs h r h', SpLK vs h r h' → Γ (Str.ofString "_law_cases") vs h r h'
  imp : ∀ vs h r h', SpLI vs h r h' → Γ (Str.ofString "_law_impossible") vs h r h'
  fails : ∀ vs h r h', SpLF vs h r h' → Γ (Str.ofString "_law_fails") vs h r h'
  taken : ∀ vs h r h', SpLT vs h r h' → Γ (Str.ofString "_law_taken") vs h r h'
  pf : ∀ vs h r h', SpPF vs h r h' → Γ (Str.ofString "propagation_fails") vs h r h'

noncomputable def LQ : Fl → Loc → Hp → Prop := fun fl _ _ => fl = .ret (.bool true)
theorem LQ_ret {b : Bool} {m : Loc} {h : Hp} : LQ (.ret (.bool b)) m h = (b = true) := by
  unfold LQ
  apply propext
  constructor
  · intro h; injection h with h; injection h with h; injection h with h; injection h with h
  · rintro rfl; rfl
noncomputable def lawS (k : Nat) : Stmt := ((bodyAt 13)[k]?).getD (.Pass ⟨0, 0, 0, 0⟩)

structure LH (cells : List Int) (h : Hp) : Prop where
  len : cells.length ≤ 1000
  c : lsAt h 0 = some (dIs cells)
  p : ∃ a b c, lsAt h 1 = some (dIs [a, b, c]) ∧ 0 ≤ a ∧ 0 ≤ c ∧ c < 1009

section
variable {Γ : Gam} {n : Nat} {m : Loc} {h : Hp} {cells : List Int}
theorem law_step {k : Nat} {Q : Fl → Loc → Hp → Prop} (hk : (bodyAt 13).drop k = lawS k :: (bodyAt 13).drop (k + 1)) : evB Γ (n + 1) ((bodyAt 13).drop k) m h Q = evS Γ n (lawS k) m h (kB Γ n ((bodyAt 13).drop (k + 1)) Q) := by
  rw [hk]; rfl
theorem LH.app {o : O} (H : LH cells h) : LH cells (h ++ [o]) := ⟨H.len, lsAt_append H.c, by
  obtain ⟨a, b, c, e, r⟩ := H.p
  exact ⟨a, b, c, lsAt_append e, r⟩⟩
theorem LH.set {o : O} {i : Nat} (H : LH cells h) (hi : 2 ≤ i) : LH cells (h.set i o) := ⟨H.len, by rw [lsAt_set_ne (by lia)]; exact H.c, by
  obtain ⟨a, b, c, e, r⟩ := H.p
  exact ⟨a, b, c, by rw [lsAt_set_ne (by lia)]; exact e, r⟩⟩
theorem LH.take {k : Nat} (H : LH cells h) (hk : 2 ≤ k) : LH cells (h.take k) := ⟨H.len, by rw [lsAt_take (by lia)]; exact H.c, by
  obtain ⟨a, b, c, e, r⟩ := H.p
  exact ⟨a, b, c, by rw [lsAt_take (by lia)]; exact e, r⟩⟩
theorem LH.two (H : LH cells h) : 2 ≤ h.length := by
  obtain ⟨a, b, c, e, r⟩ := H.p
  exact lsAt_lt e

theorem pick_rule (G : GLaw Γ) (H : LH cells h) {lim : Int} {Q : V → Hp → Prop} (h0 : 0 < lim) (h1 : lim ≤ 1000)
    (k : ∀ (d : Nat) h', (d : Int) < lim → h'.length = h.length → LH cells h' → (∀ i, i ≠ 1 → lsAt h' i = lsAt h i) → Q (.int d) h') :
    ∃ r h', Γ (Str.ofString "_law_pick") [.ref 0, .ref 1, .int lim] h r h' ∧ Q r h' := by
  obtain ⟨a, b, c, e, ha, hc, hc2⟩ := H.p
  have hd : ∃ (d : Nat) (a' b' c' : Int), (d : Int) < lim ∧ (pickF cells a b c lim).1 = d ∧ (pickF cells a b c lim).2 = [a', b', c'] ∧ 0 ≤ a' ∧ 0 ≤ c' ∧ c' < 1009 := by
    have fm : ∀ x : Int, ∃ d : Nat, (d : Int) < lim ∧ x.fmod lim = d := fun x => ⟨(x.fmod lim).toNat, by have := Int.fmod_lt_of_pos x h0; have := Int.fmod_nonneg_of_pos x h0; lia, by have := Int.fmod_nonneg_of_pos x h0; lia⟩
    have n0 : ∀ x : Int, 0 ≤ x.fmod 1009 := fun x => Int.fmod_nonneg_of_pos x (by decide)
    have n1 : ∀ x : Int, x.fmod 1009 < 1009 := fun x => Int.fmod_lt_of_pos x (by decide)
    unfold pickF
    split
    · obtain ⟨d, d1, d2⟩ := fm b
      exact ⟨d, _, _, _, d1, d2, rfl, ha, hc, hc2⟩
    · split
      · dsimp only
        obtain ⟨d, d1, d2⟩ := fm (cells.getD a.toNat 0)
        split
        · exact ⟨d, _, _, _, d1, d2, rfl, by lia, hc, hc2⟩
        · exact ⟨d, _, _, _, d1, d2, rfl, by lia, n0 _, n1 _⟩
      · obtain ⟨d, d1, d2⟩ := fm ((c * 13 + 7).fmod 1009)
        exact ⟨d, _, _, _, d1, d2, rfl, ha, n0 _, n1 _⟩
  obtain ⟨d, a', b', c', d1, d2, d3, d4, d5, d6⟩ := hd
  have h1l := lsAt_lt e
  refine ⟨_, _, G.pick _ _ _ _ ⟨0, 1, cells, a, b, c, lim, rfl, by decide, H.c, e, H.len, ha, hc, hc2, h0, h1, rfl, rfl⟩, ?_⟩
  skip
  rw [d2, d3]
  refine k d _ d1 (by rw [List.length_set]) ⟨H.len, by rw [lsAt_set_ne (by decide)]; exact H.c, _, _, _, lsAt_set h1l, d4, d5, d6⟩ fun i hi => lsAt_set_ne (Ne.symm hi)

variable {vscript vcells vpot vsquare vcount vclauses vsizes vstep vsize vclause vj vliteral vm vspared vnames vorder vimpossible vrows vliterals vbegun vfails vat vkind vbad vtaken vdue : V}

theorem law25 {b d : Bool} (hd : b = true → d = true) : evB Γ 36 ((bodyAt 13).drop 25) (ELaw vscript vcells vpot vsquare vcount vclauses vsizes vstep vsize vclause vj vliteral vm vspared vnames vorder vimpossible vrows vliterals vbegun vfails vat vkind vbad (.int (if b = true then 1 else 0)) (.bool d)) h LQ := by
  rw [law_step (by rfl)]
  conv in lawS 25 => whnf
  cases b with
  | false => ((try simp only [Bool.false_eq_true, if_false, Nat.reduceAdd, evS_Return, evE_BoolOp, bo_or, fE_ap, evE_Compare, evE_Name, ELaw_g24, kNm_some, ne_eq, reduceCtorEq, not_false_eq_true, kC1_ap, evE_int, kC2_ap, cmp_eq, beq_self_eq_true, kC3_ap, kBoO_ap, kR_ap, kB_ret, LQ_ret, bo_one, bo_and, kBoA_ap, ELaw_g25, true_and, if_true, and_true]))
  | true =>
    rw [hd rfl]
    ((try simp only [if_true, Nat.reduceAdd, evS_Return, evE_BoolOp, bo_or, fE_ap, evE_Compare, evE_Name, ELaw_g24, kNm_some, ne_eq, reduceCtorEq, not_false_eq_true, kC1_ap, evE_int, kC2_ap, cmp_eq, kC3_ap, kBoO_ap, kR_ap, kB_ret, LQ_ret, bo_one, bo_and, beq_self_eq_true, kBoA_ap, ELaw_g25, and_true, Bool.false_eq_true, true_and]))
    split <;> trivial
theorem last_get {W : List (List Int)} (h : 0 < W.length) : W.getLast? = some (W.getD ((W.length : Int) - 1).toNat []) := by
  rw [List.getLast?_eq_getElem?, List.getD_eq_getElem?_getD, show ((W.length : Int) - 1).toNat = W.length - 1 by lia, List.getElem?_eq_getElem (by lia)]
  rfl
theorem law24 {ri : Nat} {κ : Nat} {W : List (List Int)} {b ib : Bool} (hr : lsAt h ri = some (dCls W)) (hW : W.length ≤ 1000) (hW2 : ∀ w ∈ W, w.length ≤ 1000) (hB : b = true → ib = true ∧ κ < 3 ∧ W.getLast? = some []) :
    evB Γ 37 ((bodyAt 13).drop 24) (ELaw vscript vcells vpot vsquare vcount vclauses vsizes vstep vsize vclause vj vliteral vm vspared vnames vorder (.bool ib) (.ref ri) vliterals vbegun vfails vat (.int κ) vbad (.int (if b = true then 1 else 0)) vdue) h LQ := by
  rw [law_step (by rfl)]
  conv in lawS 24 => whnf
  ((try simp only [Nat.reduceAdd, evS_Assign, evE_BoolOp, bo_and, fE_ap, evE_Name, ELaw_g16, kNm_some, ne_eq, reduceCtorEq, not_false_eq_true, kBoA_ap, evE_Compare, ELaw_g22, kC1_ap, evE_int, kC2_ap, cmp_lt, kC3_ap, evE_Call, evEs_cons, ELaw_g17, kE1_ap, evEs_nil, kE2_ap, kCa_ap, true_and, kAs_ap, hasL, ELaw_g25, Option.isSome_some, ELaw_s25, kB_next]))
  have k25 : ∀ d : Bool, (b = true → d = true) → evB Γ 36 ((bodyAt 13).drop 25) (ELaw vscript vcells vpot vsquare vcount vclauses vsizes vstep vsize vclause vj vliteral vm vspared vnames vorder (.bool ib) (.ref ri) vliterals vbegun vfails vat (.int κ) vbad (.int (if b = true then 1 else 0)) (.bool d)) h LQ := fun d hd => law25 hd
  cases hi : ib with
  | false =>
    ((try simp only [Bool.false_eq_true, if_false]))
    exact hi ▸ k25 false fun q => by rw [(hB q).1] at hi; cases hi
  | true =>
    ((try simp only [if_true]))
    rw [hi] at k25
    by_cases hk : κ < 3
    · rw [if_pos (by simpa using (by lia : (κ : Int) < 3))]
      refine cf_lenR hr (by rw [dCls_len]; lia) ?_
      ((try simp only [kC1_ap, evE_int, kC2_ap, cmp_gt, kC3_ap, kBoA_ap, bo_one, fE_ap, evE_Compare, evE_Call, evEs_cons, evE_SubB, evE_Name, ELaw_g17, kNm_some, ne_eq, reduceCtorEq, not_false_eq_true, kIx1_ap, evE_Bin, kE1_ap, evEs_nil, kE2_ap, kCa_ap, true_and, kAs_ap, hasL, ELaw_g25, Option.isSome_some, ELaw_s25, kB_next]))
      rw [dCls_len]
      skip
      by_cases h0 : 0 < W.length
      · rw [if_pos (by simpa using h0)]
        refine cf_lenR hr (by rw [dCls_len]; lia) ?_
        ((try simp only [kBi1_ap, evE_int, kBi2_ap, bin_sub, kIx2_ap]))
        rw [dCls_len]
        skip
        refine get_cls hr (by lia) (by lia) (by lia) ?_
        ((try simp only [kV_ap, kE1_ap, evEs_nil, kE2_ap, kCa_ap, cf_lenT, kC1_ap, evE_int, kC2_ap, cmp_eq, kC3_ap, kAs_ap, hasL, ELaw_g25, Option.isSome_some, ELaw_s25, kB_next, true_and]))
        have hg := last_get h0
        generalize W.getD ((W.length : Int) - 1).toNat [] = u at hg ⊢
        have hu : u ∈ W := List.mem_of_getLast? hg
        ((try simp only [aIs_len]))
        refine ⟨hW2 u hu, k25 _ fun q => ?_⟩
        have := (hB q).2.2
        rw [hg] at this
        cases this
        rfl
      · rw [if_neg (by simpa using h0)]
        refine k25 false fun q => ?_
        ((try simp only [Bool.false_eq_true]))
        have := (hB q).2.2
        rw [List.eq_nil_of_length_eq_zero (by lia : W.length = 0)] at this
        cases this
    · rw [if_neg (by simpa using (by lia : (3 : Int) ≤ κ))]
      exact k25 false fun q => (hk (hB q).2.1).elim
theorem law23 {ri : Nat} {κ : Nat} {W : List (List Int)} {b ib : Bool} (hr : lsAt h ri = some (dCls W)) (hW : W.length ≤ 1000) (hW2 : ∀ w ∈ W, w.length ≤ 1000) (hA : 4 < κ → b = ib) (hB : κ ≤ 4 → b = true → ib = true ∧ κ < 3 ∧ W.getLast? = some []) :
    evB Γ 38 ((bodyAt 13).drop 23) (ELaw vscript vcells vpot vsquare vcount vclauses vsizes vstep vsize vclause vj vliteral vm vspared vnames vorder (.bool ib) (.ref ri) vliterals vbegun vfails vat (.int κ) vbad (.int (if b = true then 1 else 0)) vdue) h LQ := by
  rw [law_step (by rfl)]
  conv in lawS 23 => whnf
  ((try simp only [Nat.reduceAdd, evS_If, evT_Compare, evE_Name, ELaw_g22, kNm_some, ne_eq, reduceCtorEq, not_false_eq_true, kTC1_ap, evE_int, kTC2_ap, cmp_gt, kTC3_ap, kIf_ap, evB_cons, evS_Return, evE_Compare, ELaw_g24, kC1_ap, evE_IfExp, evT_Name, ELaw_g16, kTB_ap, kIfE_ap, kC2_ap, cmp_eq, kC3_ap, kR_ap, kB_ret, LQ_ret, true_and, evB_nil, kB_next]))
  by_cases hk : 4 < κ
  · rw [if_pos (by simpa using (by lia : (4 : Int) < κ)), hA hk]
    cases ib <;> rfl
  · rw [if_neg (by simpa using (by lia : (κ : Int) ≤ 4))]
    exact law24 hr hW hW2 (hB (by lia))
theorem law22 (G : GLaw Γ) {ci ri n κ : Nat} {C W : List (List Int)} {ib : Bool} (hn : n ≤ 3) (hc : lsAt h ci = some (dCls C)) (hr : lsAt h ri = some (dCls W)) (hW : C.length + W.length ≤ 1000) (hW2 : ∀ w ∈ W, w.length ≤ 1000)
    (hA : 4 < κ → (Takes n C W ↔ ib = true)) (hB : κ ≤ 4 → Takes n C W → ib = true ∧ κ < 3) :
    evB Γ 39 ((bodyAt 13).drop 22) (ELaw vscript vcells vpot vsquare (.int n) (.ref ci) vsizes vstep vsize vclause vj vliteral vm vspared vnames vorder (.bool ib) (.ref ri) vliterals vbegun vfails vat (.int κ) vbad vtaken vdue) h LQ := by
  rw [law_step (by rfl)]
  conv in lawS 22 => whnf
  ((try simp only [Nat.reduceAdd, evS_Assign, evE_Call, evEs_cons, fE_ap, evE_Name, ELaw_g4, kNm_some, ne_eq, reduceCtorEq, not_false_eq_true, kE1_ap, ELaw_g5, ELaw_g17, evEs_nil, kE2_ap, kCa_ap, true_and]))
  have go : ∀ b : Bool, (b = true ↔ Takes n C W) → ∃ r h', Γ (Str.ofString "_law_taken") [.int n, .ref ci, .ref ri] h r h' ∧ evB Γ 38 ((bodyAt 13).drop 23) (ELaw vscript vcells vpot vsquare (.int n) (.ref ci) vsizes vstep vsize vclause vj vliteral vm vspared vnames vorder (.bool ib) (.ref ri) vliterals vbegun vfails vat (.int κ) vbad r vdue) h' LQ := by
    intro b hb
    refine ⟨_, _, G.taken _ _ _ _ ⟨n, ci, ri, C, W, b, rfl, hc, hr, by lia, hW, hW2, rfl, hb, rfl⟩, law23 hr (by lia) hW2 (fun q => ?_) fun q q2 => ?_⟩
    · rw [Bool.eq_iff_iff, hb]; exact hA q
    · obtain ⟨a1, a2⟩ := hB q (hb.mp q2)
      exact ⟨a1, a2, (hb.mp q2).2.2⟩
  rw [callU (by rfl)]
  by_cases ht : Takes n C W
  · obtain ⟨r, h', g1, g2⟩ := go true (by simp [ht])
    refine ⟨r, h', g1, ?_⟩
    ((try simp only [kAs_ap, hasL, ELaw_g24, Option.isSome_some, ELaw_s24, kB_next, true_and]))
    exact g2
  · obtain ⟨r, h', g1, g2⟩ := go false (by simp [ht])
    refine ⟨r, h', g1, ?_⟩
    ((try simp only [kAs_ap, hasL, ELaw_g24, Option.isSome_some, ELaw_s24, kB_next, true_and]))
    exact g2
end
end Mine

/-! P10 -/
namespace Mine
open PySem
/-- the values that are forgotten -/
noncomputable def vg : List V → Nat → V
  | [], _ => .undef
  | v :: _, 0 => v
  | _ :: r, k + 1 => vg r k
section
variable {Γ : Gam} {n : Nat} {m : Loc} {h : Hp} {cells : List Int}
variable {vscript vcells vpot vsquare vcount vclauses vsizes vstep vsize vclause vj vliteral vm vspared vnames vorder vimpossible vrows vliterals vbegun vfails vat vkind vbad vtaken vdue : V}
theorem sl_drop {i : Nat} {xs : List D} {k : Int} {Q : V → Hp → Prop} (hi : lsAt h i = some xs) (hl : xs.length ≤ 100000) (h0 : 0 ≤ k) (q : Q (.ref h.length) (h ++ [.list (xs.drop k.toNat)])) : getSl (.ref i) (some k) none h Q := by
  show (match lsAt h i with | some xs => _ | .none => _)
  rw [hi]; exact ⟨hl, h0, q⟩
theorem sl_take {i : Nat} {xs : List D} {k : Int} {Q : V → Hp → Prop} (hi : lsAt h i = some xs) (hl : xs.length ≤ 100000) (h0 : 0 ≤ k) (q : Q (.ref h.length) (h ++ [.list (xs.take k.toNat)])) : getSl (.ref i) none (some k) h Q := by
  show (match lsAt h i with | some xs => _ | .none => _)
  rw [hi]; exact ⟨hl, h0, q⟩
theorem sl_tup {xs : List Int} {Q : V → Hp → Prop} (hl : xs.length ≤ 1000) (q : Q (.d (.t (aIs (xs.drop 1)))) h) : getSl (.d (.t (aIs xs))) (some 1) none h Q := by
  refine ⟨rfl, by rw [aIs_len]; exact hl, ?_⟩
  rw [aIs, ← List.map_drop]; exact q
theorem bin_cat {i j : Nat} {xs ys : List D} {Q : V → Hp → Prop} (hi : lsAt h i = some xs) (hj : lsAt h j = some ys) (hl : xs.length + ys.length ≤ 100000) (q : Q (.ref h.length) (h ++ [.list (xs ++ ys)])) : binop .Add (.ref i) (.ref j) h Q := by
  show (match lsAt h i, lsAt h j with | some xs, some ys => _ | _, _ => False)
  rw [hi, hj]; exact ⟨hl, q⟩
theorem at_one {x : Int} : [At.int x] = aIs [x] := rfl
theorem aIs_app {x y : List Int} : aIs x ++ aIs y = aIs (x ++ y) := by simp [aIs]
theorem Takes.notbad {n : Nat} {C W : List (List Int)} {w : List Int} {x : Int} (hw : w ∈ W) (hx : x ∈ w) (bad : ¬ OkL n x) : ¬ Takes n C W := fun t => bad (t.2.1.ok w hw x hx)

theorem law21 (G : GLaw Γ) {ci ri n κ a : Nat} {bad : Int} {C W : List (List Int)} {ib : Bool} (hn : n ≤ 3) (hc : lsAt h ci = some (dCls C)) (hr : lsAt h ri = some (dCls W)) (hCl : C.length ≤ 50) (hWl : W.length ≤ 50) (hW2 : ∀ w ∈ W, w.length ≤ 50)
    (ha : a < W.length) (hbad : ¬ OkL n bad) (hne : ci ≠ ri) (hib : Unsat n C → ib = true) (hfull : Takes n C W ↔ ib = true) :
    evB Γ 40 ((bodyAt 13).drop 21) (ELaw vscript vcells vpot vsquare (.int n) (.ref ci) vsizes vstep vsize vclause vj vliteral vm vspared vnames vorder (.bool ib) (.ref ri) vliterals vbegun vfails (.int a) (.int κ) (.int bad) vtaken vdue) h LQ := by
  rw [law_step (by rfl)]
  conv in lawS 21 => whnf
  have u : ∀ W', Takes n C W' → ib = true := fun W' t => hib t.unsat
  have hm : W.getD a [] ∈ W := by rw [List.getD_eq_getElem?_getD, List.getElem?_eq_getElem ha]; exact List.getElem_mem _
  have hml := hW2 _ hm
  have hset : ∀ w : List Int, w.length ≤ 1000 → ∀ x ∈ W.set a w, x.length ≤ 1000 := fun w hw x hx => by
    rcases List.mem_or_eq_of_mem_set hx with q | rfl
    · have := hW2 x q; lia
    · exact hw
  have hrl := lsAt_lt hr
  have hcl := lsAt_lt hc
  ((try simp only [Nat.reduceAdd, evS_If, evT_Compare, evE_Name, ELaw_g22, kNm_some, ne_eq, reduceCtorEq, not_false_eq_true, kTC1_ap, evE_int, kTC2_ap, cmp_eq, kTC3_ap, kIf_ap, evB_cons, evS_Assign, evE_Bin, evE_Slice, ELaw_g17, kSl1_ap, evPart_none, kSl2_ap, evPart_some, fE_ap, ELaw_g21, kPt_ap, kSl3_ap, true_and, evT_BoolOp, all_and, fT_ap, kAnd_ap, evE_Call, evEs_cons, evE_SubN, kIx1_ap, kIx2_ap, Bool.false_eq_true, evS_AssignSub, evE_Tuple, evE_Unary, evE_SubC, evS_Expr, evE_Meth, ELaw_g5, kM1_ap, ELaw_g23, kE1_ap, evEs_nil, kE2_ap, kTup_ap, atoms_cons, atoms_nil, Option.map_some, List.length_cons, List.length_nil, Nat.reduceLeDiff, kM2_ap, evB_nil, kB_next, if_false]))
  by_cases h0 : κ = 0
  · subst h0
    rw [if_pos (by simp)]
    refine sl_take hr (by rw [dCls_len]; lia) (by lia) ?_
    ((try simp only [kBi1_ap, evE_Slice, evE_Name, ELaw_g17, kNm_some, ne_eq, reduceCtorEq, not_false_eq_true, kSl1_ap, evPart_some, fE_ap, evE_Bin, ELaw_g21, evE_int, kBi2_ap, bin_add, kPt_ap, kSl2_ap, evPart_none, kSl3_ap, true_and]))
    refine sl_drop (lsAt_append hr) (by rw [dCls_len]; lia) (by lia) ?_
    ((try simp only [kBi2_ap]))
    have l1 := lsAt_last (h := h) (xs := (dCls W).take ((a : Int)).toNat)
    refine bin_cat (lsAt_append l1) lsAt_last (by rw [List.length_take, List.length_drop, dCls_len]; exact Nat.le_trans (Nat.add_le_add (Nat.min_le_right _ _) (Nat.sub_le _ _)) (by lia)) ?_
    ((try simp only [kAs_ap, hasL, ELaw_g17, Option.isSome_some, ELaw_s17, kB_next, evB_nil, true_and]))
    have e : ((dCls W).take ((a : Int)).toNat ++ (dCls W).drop ((a : Int) + 1).toNat) = dCls (W.take a ++ W.drop (a + 1)) := by
      rw [Int.toNat_natCast, show ((a : Int) + 1).toNat = a + 1 by lia]
      simp [dCls, List.map_append, List.map_take, List.map_drop]
    rw [e]
    refine law22 G (C := C) (W := W.take a ++ W.drop (a + 1)) hn (lsAt_append (lsAt_append (lsAt_append hc))) lsAt_last ?_ ?_ (by lia) fun _ t => ⟨u _ t, by lia⟩
    · rw [List.length_append, List.length_take, List.length_drop]; exact Nat.le_trans (Nat.add_le_add_left (Nat.add_le_add (Nat.min_le_right _ _) (Nat.sub_le _ _)) _) (by lia)
    · intro w hw
      rcases List.mem_append.mp hw with q | q
      · have := hW2 w (List.mem_of_mem_take q); lia
      · have := hW2 w (List.mem_of_mem_drop q); lia
  · rw [if_neg (by simpa using (by lia : ¬ (κ : Int) = 0))]
    have plain : (4 < κ ∨ κ = 1) → evB Γ 39 ((bodyAt 13).drop 22) (ELaw vscript vcells vpot vsquare (.int n) (.ref ci) vsizes vstep vsize vclause vj vliteral vm vspared vnames vorder (.bool ib) (.ref ri) vliterals vbegun vfails (.int a) (.int κ) (.int bad) vtaken vdue) h LQ := fun q =>
      law22 G hn hc hr (by lia) (fun w hw => by have := hW2 w hw; lia) (fun _ => hfull) fun q2 t => ⟨hfull.mp t, by lia⟩
    have set1 : ∀ (w : List Int), w.length ≤ 1000 → κ < 4 → (κ = 3 → bad ∈ w) → setIt (.ref ri) (.int a) (.d (.t (aIs w))) h fun h4 => evB Γ 39 ((bodyAt 13).drop 22) (ELaw vscript vcells vpot vsquare (.int n) (.ref ci) vsizes vstep vsize vclause vj vliteral vm vspared vnames vorder (.bool ib) (.ref ri) vliterals vbegun vfails (.int a) (.int κ) (.int bad) vtaken vdue) h4 LQ := by
      intro w hw hk hb
      refine set_cls hr (by lia) (by lia) (by lia) ?_
      skip
      rw [Int.toNat_natCast]
      refine law22 G (C := C) (W := W.set a w) hn (by rw [lsAt_set_ne (Ne.symm hne)]; exact hc) (lsAt_set hrl) (by rw [List.length_set]; lia) (hset w hw) (by lia) fun _ t => ⟨u _ t, ?_⟩
      rcases Nat.lt_or_ge κ 3 with q | q
      · exact q
      · exact (Takes.notbad (w := w) (List.mem_set ha w) (hb (by lia)) hbad t).elim
    by_cases h1 : κ = 1
    · subst h1
      rw [if_pos (by decide)]
      refine get_cls hr (by lia) (by lia) (by lia) ?_
      ((try simp only [kV_ap, kE1_ap, evEs_nil, kE2_ap, kCa_ap, cf_lenT, kTC1_ap, evE_int, kTC2_ap, cmp_gt, kTC3_ap, kAnd_ap, all_and_nil, kIf_ap, evB_cons, evS_AssignSub, evE_Bin, evE_Tuple, evEs_cons, fE_ap, evE_Unary, evE_SubC, evE_SubN, evE_Name, ELaw_g17, kNm_some, ne_eq, reduceCtorEq, not_false_eq_true, kIx1_ap, ELaw_g21, kIx2_ap, true_and, evS_If, evT_Compare, ELaw_g22, cmp_eq, evE_Slice, evS_Expr, evE_Meth, ELaw_g5, kM1_ap, ELaw_g23, kTup_ap, atoms_cons, atoms_nil, Option.map_some, List.length_cons, List.length_nil, Nat.reduceAdd, Nat.reduceLeDiff, kM2_ap, evB_nil, kB_next, if_true, Bool.false_eq_true, if_false]))
      rw [Int.toNat_natCast]
      ((try simp only [aIs_len]))
      refine ⟨by lia, ?_⟩
      skip
      by_cases hz : 0 < (W.getD a []).length
      · rw [if_pos (by simpa using (by lia : (0 : Int) < (W.getD a []).length))]
        refine get_cls hr (by lia) (by lia) (by lia) ?_
        ((try simp only [kV_ap, kIx1_ap, evE_int, kIx2_ap]))
        rw [Int.toNat_natCast]
        refine get_tup (by decide) (by decide) hz ?_
        ((try simp only [kV_ap, kUn_ap, unop_neg, kE1_ap, evEs_nil, kE2_ap, kTup_ap, atoms_cons, atoms_nil, Option.map_some, List.length_cons, List.length_nil, Nat.reduceAdd, Nat.reduceLeDiff, kBi1_ap, evE_Slice, evE_SubN, evE_Name, ELaw_g17, kNm_some, ne_eq, reduceCtorEq, not_false_eq_true, kIx1_ap, ELaw_g21, kIx2_ap, true_and]))
        refine get_cls hr (by lia) (by lia) (by lia) ?_
        ((try simp only [kV_ap, kSl1_ap, evPart_some, fE_ap, evE_int, kPt_ap, kSl2_ap, evPart_none, kSl3_ap]))
        rw [Int.toNat_natCast]
        refine sl_tup (by lia) ?_
        ((try simp only [kBi2_ap, bin_tup, List.length_cons, List.length_nil, Nat.reduceAdd, kS1_ap, evE_Name, ELaw_g17, kNm_some, ne_eq, reduceCtorEq, not_false_eq_true, kS2_ap, ELaw_g21, kS3_ap, true_and]))
        rw [at_one]
        ((try simp only [aIs_len]))
        refine ⟨by first | lia | (simp only [List.length_append, List.length_cons, List.length_nil, List.length_drop]; lia), ?_⟩
        show setIt _ _ (.d (.t (aIs _ ++ aIs _))) _ _
        rw [aIs_app]
        exact set1 _ (by first | lia | (simp only [List.length_append, List.length_cons, List.length_nil, List.length_drop]; lia)) (by decide) (by lia)
      · rw [if_neg (by simpa using (by lia : ¬ (0 : Int) < (W.getD a []).length))]
        rw [if_neg (by decide), if_neg (by decide), if_neg (by decide)]
        exact plain (.inr rfl)
    · rw [if_neg (by simpa using (by lia : ¬ (κ : Int) = 1))]
      by_cases h2 : κ = 2
      · subst h2
        rw [if_pos (by decide)]
        refine get_cls hr (by lia) (by lia) (by lia) ?_
        ((try simp only [kV_ap, kSl1_ap, evPart_some, fE_ap, evE_int, kPt_ap, kSl2_ap, evPart_none, kSl3_ap]))
        rw [Int.toNat_natCast]
        refine sl_tup (by lia) ?_
        ((try simp only [kS1_ap, evE_Name, ELaw_g17, kNm_some, ne_eq, reduceCtorEq, not_false_eq_true, kS2_ap, ELaw_g21, kS3_ap, true_and]))
        exact set1 _ (by rw [List.length_drop]; lia) (by decide) (by lia)
      · rw [if_neg (by simpa using (by lia : ¬ (κ : Int) = 2))]
        by_cases h3 : κ = 3
        · subst h3
          rw [if_pos (by decide)]
          refine get_cls hr (by lia) (by lia) (by lia) ?_
          ((try simp only [kV_ap, kBi1_ap, evE_Tuple, evEs_cons, fE_ap, evE_Name, ELaw_g23, kNm_some, ne_eq, reduceCtorEq, not_false_eq_true, kE1_ap, evEs_nil, kE2_ap, kTup_ap, atoms_cons, atoms_nil, Option.map_some, List.length_cons, List.length_nil, Nat.reduceAdd, Nat.reduceLeDiff, kBi2_ap, bin_tup, kS1_ap, ELaw_g17, kS2_ap, ELaw_g21, kS3_ap, true_and]))
          rw [Int.toNat_natCast, at_one]
          ((try simp only [aIs_len]))
          refine ⟨by first | lia | (simp only [List.length_append, List.length_cons, List.length_nil, List.length_drop]; lia), ?_⟩
          show setIt _ _ (.d (.t (aIs _ ++ aIs _))) _ _
          rw [aIs_app]
          exact set1 _ (by first | lia | (simp only [List.length_append, List.length_cons, List.length_nil, List.length_drop]; lia)) (by decide) (by simp)
        · rw [if_neg (by simpa using (by lia : ¬ (κ : Int) = 3))]
          by_cases h4 : κ = 4
          · subst h4
            rw [if_pos (by decide)]
            refine ⟨mo_append hc, m_append hc (by rw [dCls_len]; lia) ?_⟩
            ((try simp only [kX_ap, kB_next, evB_nil]))
            rw [show dCls C ++ [D.t [At.int bad]] = dCls (C ++ [[bad]]) from dCls_snoc (w := [bad])]
            refine law22 G (C := C ++ [[bad]]) (W := W) hn (lsAt_set hcl) (by rw [lsAt_set_ne hne]; exact hr) (by simp; lia) (fun w hw => by have := hW2 w hw; lia) (by lia) fun _ t => ?_
            skip
            exact (hbad (t.1 [bad] (by simp) bad (by simp))).elim
          · rw [if_neg (by simpa using (by lia : ¬ (κ : Int) = 4))]
            exact plain (.inl (by lia))
end
end Mine

/-! P11 -/
namespace Mine
open PySem
section
variable {Γ : Gam} {n : Nat} {m : Loc} {h : Hp} {cells : List Int}
variable {vscript vcells vpot vsquare vcount vclauses vsizes vstep vsize vclause vj vliteral vm vspared vnames vorder vimpossible vrows vliterals vbegun vfails vat vkind vbad vtaken vdue : V}
theorem law20 (G : GLaw Γ) (H : LH cells h) {ci ri n κ a : Nat} {C W : List (List Int)} {ib : Bool} (hn : n ≤ 3) (hc : lsAt h ci = some (dCls C)) (hr : lsAt h ri = some (dCls W)) (hCl : C.length ≤ 50) (hWl : W.length ≤ 50) (hW2 : ∀ w ∈ W, w.length ≤ 50)
    (ha : a < W.length) (hne : ci ≠ ri) (hc1 : ci ≠ 1) (hr1 : ri ≠ 1) (hib : Unsat n C → ib = true) (hfull : Takes n C W ↔ ib = true) :
    evB Γ 41 ((bodyAt 13).drop 20) (ELaw vscript (.ref 0) (.ref 1) vsquare (.int n) (.ref ci) vsizes vstep vsize vclause vj vliteral vm vspared vnames vorder (.bool ib) (.ref ri) vliterals vbegun vfails (.int a) (.int κ) vbad vtaken vdue) h LQ := by
  rw [law_step (by rfl)]
  conv in lawS 20 => whnf
  ((try simp only [Nat.reduceAdd, evS_Assign, evE_SubCall, evE_Tuple, evEs_cons, fE_ap, evE_int, kE1_ap, evE_Bin, evE_Name, ELaw_g4, kNm_some, ne_eq, reduceCtorEq, not_false_eq_true, kBi1_ap, kBi2_ap, bin_add, evE_Unary, kUn_ap, unop_neg, kV_ap, bin_sub, evEs_nil, kE2_ap, kTup_ap, atoms_cons, atoms_nil, Option.map_some, List.length_cons, List.length_nil, Nat.reduceLeDiff, kIx1_ap, evE_Call, ELaw_g1, ELaw_g2, kCa_ap, true_and]))
  refine pick_rule G H (by decide) (by decide) fun d h' hd hl H' hk => ?_
  ((try simp only [kIx2_ap]))
  have e : [At.int 0, At.int ((n : Int) + 1), At.int (-(n : Int) - 1)] = aIs [0, (n : Int) + 1, -(n : Int) - 1] := rfl
  rw [e]
  refine get_tup (by lia) (by lia) (show _ < 3 by lia) ?_
  ((try simp only [kV_ap, kAs_ap, hasL, ELaw_g23, Option.isSome_some, ELaw_s23, kB_next, true_and]))
  rw [Int.toNat_natCast]
  refine law21 G (C := C) (W := W) hn (by rw [hk _ hc1]; exact hc) (by rw [hk _ hr1]; exact hr) hCl hWl hW2 ha ?_ hne hib hfull
  rintro ⟨b1, b2⟩
  have : d = 0 ∨ d = 1 ∨ d = 2 := by lia
  rcases this with rfl | rfl | rfl
  · exact b1 rfl
  · have b2 : ((n : Int) + 1).natAbs ≤ n := b2
    lia
  · have b2 : (-(n : Int) - 1).natAbs ≤ n := b2
    lia
theorem law19 (G : GLaw Γ) (H : LH cells h) {ci ri n a : Nat} {C W : List (List Int)} {ib : Bool} (hn : n ≤ 3) (hc : lsAt h ci = some (dCls C)) (hr : lsAt h ri = some (dCls W)) (hCl : C.length ≤ 50) (hWl : W.length ≤ 50) (hW2 : ∀ w ∈ W, w.length ≤ 50)
    (ha : a < W.length) (hne : ci ≠ ri) (hc1 : ci ≠ 1) (hr1 : ri ≠ 1) (hib : Unsat n C → ib = true) (hfull : Takes n C W ↔ ib = true) :
    evB Γ 42 ((bodyAt 13).drop 19) (ELaw vscript (.ref 0) (.ref 1) vsquare (.int n) (.ref ci) vsizes vstep vsize vclause vj vliteral vm vspared vnames vorder (.bool ib) (.ref ri) vliterals vbegun vfails (.int a) vkind vbad vtaken vdue) h LQ := by
  rw [law_step (by rfl)]
  conv in lawS 19 => whnf
  ((try simp only [Nat.reduceAdd, evS_Assign, evE_Call, evEs_cons, fE_ap, evE_Name, ELaw_g1, kNm_some, ne_eq, reduceCtorEq, not_false_eq_true, kE1_ap, ELaw_g2, evE_int, evEs_nil, kE2_ap, kCa_ap, true_and]))
  refine pick_rule G H (by decide) (by decide) fun d h' hd hl H' hk => ?_
  ((try simp only [kAs_ap, hasL, ELaw_g22, Option.isSome_some, ELaw_s22, kB_next, true_and]))
  exact law20 G H' hn (by rw [hk _ hc1]; exact hc) (by rw [hk _ hr1]; exact hr) hCl hWl hW2 ha hne hc1 hr1 hib hfull
theorem law18 (G : GLaw Γ) (H : LH cells h) {ci ri n : Nat} {C W : List (List Int)} {ib : Bool} (hn : n ≤ 3) (hc : lsAt h ci = some (dCls C)) (hr : lsAt h ri = some (dCls W)) (hCl : C.length ≤ 50) (hWl : W.length ≤ 50) (hW2 : ∀ w ∈ W, w.length ≤ 50)
    (hW0 : 0 < W.length) (hne : ci ≠ ri) (hc1 : ci ≠ 1) (hr1 : ri ≠ 1) (hib : Unsat n C → ib = true) (hfull : Takes n C W ↔ ib = true) :
    evB Γ 43 ((bodyAt 13).drop 18) (ELaw vscript (.ref 0) (.ref 1) vsquare (.int n) (.ref ci) vsizes vstep vsize vclause vj vliteral vm vspared vnames vorder (.bool ib) (.ref ri) vliterals vbegun vfails vat vkind vbad vtaken vdue) h LQ := by
  rw [law_step (by rfl)]
  conv in lawS 18 => whnf
  ((try simp only [Nat.reduceAdd, evS_Assign, evE_Call, evEs_cons, fE_ap, evE_Name, ELaw_g1, kNm_some, ne_eq, reduceCtorEq, not_false_eq_true, kE1_ap, ELaw_g2, ELaw_g17, evEs_nil, kE2_ap, kCa_ap, true_and]))
  refine cf_lenR hr (by rw [dCls_len]; lia) ?_
  ((try simp only [kE1_ap, evEs_nil, kE2_ap, kCa_ap]))
  rw [dCls_len]
  refine pick_rule G H (by lia) (by lia) fun d h' hd hl H' hk => ?_
  ((try simp only [kAs_ap, hasL, ELaw_g21, Option.isSome_some, ELaw_s21, kB_next, true_and]))
  exact law19 G H' hn (by rw [hk _ hc1]; exact hc) (by rw [hk _ hr1]; exact hr) hCl hWl hW2 (by lia) hne hc1 hr1 hib hfull

/-- what stands behind the rows' making -/
structure St15 (n ci ri : Nat) (C W : List (List Int)) (ib : Bool) (cells : List Int) (h : Hp) : Prop where
  H : LH cells h
  hn : n ≤ 3
  hc : lsAt h ci = some (dCls C)
  hr : lsAt h ri = some (dCls W)
  hCl : C.length ≤ 50
  hC2 : ∀ c ∈ C, c.length ≤ 8 ∧ OkC n c
  hWl : W.length ≤ 50
  hW2 : ∀ w ∈ W, w.length ≤ 50
  hW0 : 0 < W.length
  hne : ci ≠ ri
  hc1 : 2 ≤ ci
  hr1 : 2 ≤ ri
  hib : Unsat n C → ib = true
  hfull : Takes n C W ↔ ib = true
theorem St15.app {n ci ri : Nat} {C W : List (List Int)} {ib : Bool} {o : O} (S : St15 n ci ri C W ib cells h) : St15 n ci ri C W ib cells (h ++ [o]) :=
  { S with H := S.H.app, hc := lsAt_append S.hc, hr := lsAt_append S.hr }
theorem St15.pick {n ci ri : Nat} {C W : List (List Int)} {ib : Bool} {h' : Hp} (S : St15 n ci ri C W ib cells h) (H : LH cells h') (hk : ∀ i, i ≠ 1 → lsAt h' i = lsAt h i) : St15 n ci ri C W ib cells h' :=
  { S with H := H, hc := by rw [hk _ (by have := S.hc1; lia)]; exact S.hc, hr := by rw [hk _ (by have := S.hr1; lia)]; exact S.hr }
theorem law17 (G : GLaw Γ) {ci ri li bi n : Nat} {C W : List (List Int)} {L : List Int} {ib b : Bool} (S : St15 n ci ri C W ib cells h) (hL : L.length ≤ 14) (oL : OkC n L) (hl : lsAt h li = some (dIs L)) (hb : lsAt h bi = some (dIs L)) (hf : b = true ↔ Fails C L) :
    evB Γ 44 ((bodyAt 13).drop 17) (ELaw vscript (.ref 0) (.ref 1) vsquare (.int n) (.ref ci) vsizes vstep vsize vclause vj vliteral vm vspared vnames vorder (.bool ib) (.ref ri) (.ref li) (.ref bi) (.bool b) vat vkind vbad vtaken vdue) h LQ := by
  rw [law_step (by rfl)]
  conv in lawS 17 => whnf
  ((try simp only [Nat.reduceAdd, evS_If, evT_BoolOp, all_or, fT_ap, evT_Not, evT_Call, evE_Call, evEs_cons, fE_ap, evE_Name, ELaw_g20, kNm_some, ne_eq, reduceCtorEq, not_false_eq_true, kE1_ap, ELaw_b, kNm_none, tyOf_bool, evEs_nil, kE2_ap, kCa_ap, cf_isB, kTB_ap, kNot_ap, Bool.not_true, kOr_ap, Bool.false_eq_true, kIf_ap, evB_cons, evS_Return, evE_bool, kR_ap, kB_ret, evB_nil, kB_next, if_true, evT_Compare, kTC1_ap, ELaw_g5, ELaw_g19, true_and, if_false]))
  refine ⟨_, _, G.fails _ _ _ _ ⟨n, ci, bi, C, L, b, rfl, S.hn, S.hc, hb, S.hCl, hL, S.hC2, oL, rfl, hf, rfl⟩, ?_⟩
  ((try simp only [kTC2_ap, cmp_neB, bne_self_eq_false, kTC3_ap, kOr_ap, Bool.false_eq_true, kIf_ap, evB_cons, evS_Return, evE_bool, kR_ap, kB_ret, evB_nil, kB_next, if_true, all_or, fT_ap, evT_Compare, evE_Name, ELaw_g18, kNm_some, ne_eq, reduceCtorEq, not_false_eq_true, kTC1_ap, ELaw_g19, true_and, if_false]))
  refine ne_lists hl hb DI_ints ?_
  ((try simp only [kTC3_ap, kOr_ap, Bool.false_eq_true, kIf_ap, evB_cons, evS_Return, evE_bool, kR_ap, kB_ret, evB_nil, kB_next, if_true, all_or_nil, if_false]))
  exact law18 G S.H S.hn S.hc S.hr S.hCl S.hWl S.hW2 S.hW0 S.hne (by have := S.hc1; lia) (by have := S.hr1; lia) S.hib S.hfull
theorem law15 (G : GLaw Γ) {ci ri li n : Nat} {C W : List (List Int)} {L : List Int} {ib : Bool} (S : St15 n ci ri C W ib cells h) (hL : L.length ≤ 14) (oL : OkC n L) (hl : lsAt h li = some (dIs L)) :
    evB Γ 46 ((bodyAt 13).drop 15) (ELaw vscript (.ref 0) (.ref 1) vsquare (.int n) (.ref ci) vsizes vstep vsize vclause vj vliteral vm vspared vnames vorder (.bool ib) (.ref ri) (.ref li) vbegun vfails vat vkind vbad vtaken vdue) h LQ := by
  rw [law_step (by rfl)]
  conv in lawS 15 => whnf
  ((try simp only [Nat.reduceAdd, evS_Assign, evE_Call, evEs_cons, fE_ap, evE_Name, ELaw_g18, kNm_some, ne_eq, reduceCtorEq, not_false_eq_true, kE1_ap, evEs_nil, kE2_ap, kCa_ap, true_and]))
  refine cf_list hl (by rw [dIs_len]; lia) ?_
  ((try simp only [kAs_ap, hasL, ELaw_g19, Option.isSome_some, ELaw_s19, kB_next, true_and]))
  rw [law_step (by rfl)]
  conv in lawS 16 => whnf
  ((try simp only [Nat.reduceAdd, evS_Assign, evE_Call, evEs_cons, fE_ap, evE_Name, ELaw_g4, kNm_some, ne_eq, reduceCtorEq, not_false_eq_true, kE1_ap, ELaw_g5, ELaw_g18, evEs_nil, kE2_ap, kCa_ap, true_and]))
  have go : ∀ b : Bool, (b = true ↔ Fails C L) → ∃ r h', Γ (Str.ofString "propagation_fails") [.int n, .ref ci, .ref li] (h ++ [.list (dIs L)]) r h' ∧ evB Γ 44 ((bodyAt 13).drop 17) (ELaw vscript (.ref 0) (.ref 1) vsquare (.int n) (.ref ci) vsizes vstep vsize vclause vj vliteral vm vspared vnames vorder (.bool ib) (.ref ri) (.ref li) (.ref h.length) r vat vkind vbad vtaken vdue) h' LQ := by
    intro b hb
    exact ⟨_, _, G.pf _ _ _ _ ⟨n, ci, li, C, L, b, rfl, lsAt_append S.hc, lsAt_append hl, by have := S.hn; lia, by have := S.hCl; lia, by lia, fun c hc => (S.hC2 c hc).2, oL, rfl, hb, rfl⟩, law17 G S.app hL oL (lsAt_append hl) lsAt_last hb⟩
  rw [callU (by rfl)]
  by_cases ht : Fails C L
  · obtain ⟨r, h', g1, g2⟩ := go true (by simp [ht])
    refine ⟨r, h', g1, ?_⟩
    ((try simp only [kAs_ap, hasL, ELaw_g20, Option.isSome_some, ELaw_s20, kB_next, true_and]))
    exact g2
  · obtain ⟨r, h', g1, g2⟩ := go false (by simp [ht])
    refine ⟨r, h', g1, ?_⟩
    ((try simp only [kAs_ap, hasL, ELaw_g20, Option.isSome_some, ELaw_s20, kB_next, true_and]))
    exact g2
inductive I11 (n ci ri : Nat) (C W : List (List Int)) (ib : Bool) (cells : List Int) (h : Hp) (d : Nat) (r : List Nat) (m : Loc) (h2 : Hp) : Prop
  | mk (g : Nat → V) (e0 : m = (ELaw (g 0) (.ref 0) (.ref 1) (g 1) (.int n) (.ref ci) (g 2) (g 3) (g 4) (g 5) (g 6) (g 7) (g 8) (g 9) (g 10) (g 11) (.bool ib) (.ref ri) (.ref h.length) (g 12) (g 13) (g 14) (g 15) (g 16) (g 17) (g 18))) (e1 : h2.length = h.length + 1) (e2 : St15 n ci ri C W ib cells h2) (L : List Int) (f0 : lsAt h2 h.length = some (dIs L)) (f1 : L.length + r.length ≤ d) (f2 : OkC n L) : I11 n ci ri C W ib cells h d r m h2
theorem law13 (G : GLaw Γ) {ci ri n : Nat} {C W : List (List Int)} {ib : Bool} (S : St15 n ci ri C W ib cells h) :
    evB Γ 48 ((bodyAt 13).drop 13) (ELaw vscript (.ref 0) (.ref 1) vsquare (.int n) (.ref ci) vsizes vstep vsize vclause vj vliteral vm vspared vnames vorder (.bool ib) (.ref ri) vliterals vbegun vfails vat vkind vbad vtaken vdue) h LQ := by
  rw [law_step (by rfl)]
  conv in lawS 13 => whnf
  ((try simp only [Nat.reduceAdd, evS_Assign, evE_List, evEs_nil, kLst_ap, datas_nil, List.length_nil, Nat.reduceLeDiff, kAs_ap, hasL, ELaw_g18, Option.isSome_some, ELaw_s18, kB_next, true_and]))
  rw [law_step (by rfl)]
  conv in lawS 14 => whnf
  ((try simp only [Nat.reduceAdd, evS_If, evT_Compare, evE_Name, ELaw_g4, kNm_some, ne_eq, reduceCtorEq, not_false_eq_true, kTC1_ap, evE_int, kTC2_ap, cmp_gt, kTC3_ap, kIf_ap, evB_cons, evS_ForCall, evE_Call, evEs_cons, fE_ap, ELaw_g1, kE1_ap, ELaw_g2, evEs_nil, kE2_ap, kCa_ap, true_and, evB_nil, kB_next]))
  have hl0 : lsAt (h ++ [O.list []] : Hp) h.length = some (dIs []) := lsAt_last
  have len1 : List.length (h ++ [O.list []] : Hp) = h.length + 1 := by simp
  have h2' := S.H.two
  by_cases hn0 : 0 < n
  · rw [if_pos (by simpa using hn0)]
    refine pick_rule G S.app.H (by decide) (by decide) fun d h' hd hl H' hk => ?_
    ((try simp only [kE1_ap, evEs_nil, kE2_ap, kCa_ap, cf_range1, kFor_ap]))
    have S' := S.app.pick H' hk
    have hl' : lsAt h' h.length = some (dIs []) := by rw [hk _ (by lia)]; exact hl0
    rw [len1] at hl
    skip
    have hci := lsAt_lt S'.hc
    have hri := lsAt_lt S'.hr
    refine forV_nat (by lia) (I11 n ci ri C W ib cells h d) ?_ ?_ ?_
    · exact ⟨vg [_, _, _, _, _, _, _, _, _, _, _, _, _, _, _, _, _, _, _], rfl, hl, S', [], hl', by simp, fun l hl => by cases hl⟩
    · rintro a r m h2 ⟨g, rfl, hl2, S2, L, hL, hLl, hLo⟩
      have hn3 := S.hn
      rw [List.length_cons] at hLl
      ((try simp only [hasL, ELaw_g7, Option.isSome_some, ELaw_s7, evB_cons, evS_Assign, evE_Bin, evE_int, kBi1_ap, evE_Call, evEs_cons, fE_ap, evE_Name, ELaw_g1, kNm_some, ne_eq, reduceCtorEq, not_false_eq_true, kE1_ap, ELaw_g2, ELaw_g4, evEs_nil, kE2_ap, kCa_ap, true_and]))
      refine pick_rule G S2.H (by lia) (by lia) fun d1 h3 hd1 hl3 H3 hk3 => ?_
      ((try simp only [kBi2_ap, bin_add, kAs_ap, hasL, ELaw_g11, Option.isSome_some, ELaw_s11, kB_next, evB_cons, evS_Expr, evE_Meth, evE_Name, ELaw_g18, kNm_some, ne_eq, reduceCtorEq, not_false_eq_true, kM1_ap, evEs_cons, fE_ap, evE_IfExp, evT_Compare, evE_Call, ELaw_g1, kE1_ap, ELaw_g2, evE_int, evEs_nil, kE2_ap, kCa_ap, true_and]))
      have S3 := S2.pick H3 hk3
      have hL3 : lsAt h3 h.length = some (dIs L) := by rw [hk3 _ (by lia)]; exact hL
      skip
      refine ⟨mo_append hL3, ?_⟩
      skip
      refine pick_rule G S3.H (by decide) (by decide) fun d2 h4 hd2 hl4 H4 hk4 => ?_
      ((try simp only [kTC1_ap, evE_int, kTC2_ap, cmp_eq, kTC3_ap, kIfE_ap, evE_Name, ELaw_g11, kNm_some, ne_eq, reduceCtorEq, not_false_eq_true, kE1_ap, evEs_nil, kE2_ap, kM2_ap, true_and, evE_Unary, kUn_ap, unop_neg, kV_ap]))
      have S4 := S3.pick H4 hk4
      have hL4 : lsAt h4 h.length = some (dIs L) := by rw [hk4 _ (by lia)]; exact hL3
      have fin : ∀ (x : Int) (m1 : Loc), OkL n x → Weak (h.length + 1) m1 (ELaw (.undef) (.ref 0) (.ref 1) (.undef) (.int n) (.ref ci) (.undef) (.undef) (.undef) (.undef) (.undef) (.undef) (.undef) (.undef) (.undef) (.undef) (.bool ib) (.ref ri) (.ref h.length) (.undef) (.undef) (.undef) (.undef) (.undef) (.undef) (.undef)) → meth (Str.ofString "append") (.ref h.length) [.int x] h4 fun x h' => ∃ m'', Weak (h.length + 1) m1 m'' ∧
          I11 n ci ri C W ib cells h d r m'' (h'.take (h.length + 1)) := by
        intro x m1 hx hw
        have hlt := lsAt_lt hL4
        have hc4 := lsAt_lt S4.hc
        have hr4 := lsAt_lt S4.hr
        refine m_append hL4 (by rw [dIs_len]; lia) ?_
        skip
        rw [dIs_snoc, List.take_of_length_le (by rw [List.length_set]; lia)]
        have c1 := lsAt_lt S.hc
        have c2 := lsAt_lt S.hr
        refine ⟨_, ?_, vg [.undef, .undef, .undef, .undef, .undef, .undef, .undef, .undef, .undef, .undef, .undef, .undef, .undef, .undef, .undef, .undef, .undef, .undef, .undef], rfl, by rw [List.length_set]; lia, { S4 with H := S4.H.set h2', hc := ?_, hr := ?_ }, L ++ [x], lsAt_set hlt, by rw [List.length_append, List.length_singleton]; lia, ?_⟩
        · exact hw
        · rw [lsAt_set_ne (by lia)]; exact S4.hc
        · rw [lsAt_set_ne (by lia)]; exact S4.hr
        · intro l hl
          rcases List.mem_append.mp hl with q | q
          · exact hLo l q
          · rw [List.mem_singleton.mp q]; exact hx
      rw [hl]
      have c1 := lsAt_lt S.hc
      have c2 := lsAt_lt S.hr
      have z0 : 0 < h.length + 1 := by lia
      have z1 : 1 < h.length + 1 := by lia
      have z2 : ci < h.length + 1 := by lia
      have z3 : ri < h.length + 1 := by lia
      have z4 : h.length < h.length + 1 := by lia
      skip
      by_cases h0 : d2 = 0
      · rw [if_pos (by simpa using (by lia : (d2 : Int) = 0))]
        exact fin _ _ ⟨by lia, by lia⟩ (by (repeat' (first | exact weak_nil | exact trivial | assumption | apply weak_drop | apply weak_keep)))
      · rw [if_neg (by simpa using (by lia : ¬ (d2 : Int) = 0))]
        exact fin _ _ ⟨by lia, by lia⟩ (by (repeat' (first | exact weak_nil | exact trivial | assumption | apply weak_drop | apply weak_keep)))
    · rintro m h2 ⟨g, rfl, hl2, S2, L, hL, hLl, hLo⟩
      exact law15 G S2 (by simp at hLl; lia) hLo hL
  · rw [if_neg (by simpa using hn0)]
    exact law15 G S.app (by decide) (fun l hl => by cases hl) hl0
end
end Mine

/-! P12 -/
namespace Mine
open PySem
section
variable {Γ : Gam} {n : Nat} {m : Loc} {h : Hp} {cells : List Int}
variable {vscript vcells vpot vsquare vcount vclauses vsizes vstep vsize vclause vj vliteral vm vspared vnames vorder vimpossible vrows vliterals vbegun vfails vat vkind vbad vtaken vdue : V}
theorem casesF_len {W : List Int} {t : Nat} (hW : W.length ≤ 3) : (casesF W t).length ≤ 50 := by
  have : ∀ k ≤ 3, ((downs k).flatMap fun s => List.range (2 ^ s)).length ≤ 50 := by decide
  have h2 := this _ hW
  have e3 : (casesF W t).length = ((downs W.length).flatMap fun s => List.range (2 ^ s)).length := by
    unfold casesF
    rw [List.length_flatMap, List.length_flatMap]
    congr 1
    apply List.map_congr_left
    intro a _
    simp [casesS]
  lia
theorem casesF_row {W : List Int} {t : Nat} (hW : W.length ≤ 3) : ∀ w ∈ casesF W t, w.length ≤ 50 := by
  intro w hw
  obtain ⟨s, hs, hw⟩ := List.mem_flatMap.mp hw
  obtain ⟨m, _, rfl⟩ := List.mem_map.mp hw
  obtain ⟨i, _, rfl⟩ := List.mem_map.mp hs
  unfold caseC
  rw [List.length_map, List.length_range]
  lia
theorem casesF_pos {W : List Int} {t : Nat} : 0 < (casesF W t).length := by
  unfold casesF
  rw [List.length_flatMap]
  have : ∀ k, 0 < ((downs k).map fun a => (casesS W t a).length).sum := by
    intro k
    induction k with
    | zero => simp [downs, casesS]
    | succ k ih => rw [downs_succ, List.map_cons, List.sum_cons]; lia
  exact this _

/-- what stands behind the clauses' making -/
structure St8 (n ci : Nat) (C : List (List Int)) (cells : List Int) (h : Hp) : Prop where
  H : LH cells h
  hn : n ≤ 3
  hc : lsAt h ci = some (dCls C)
  hCl : C.length ≤ 50
  hC2 : ∀ c ∈ C, c.length ≤ 8 ∧ OkC n c
  hc1 : 2 ≤ ci
theorem St8.app {n ci : Nat} {C : List (List Int)} {o : O} (S : St8 n ci C cells h) : St8 n ci C cells (h ++ [o]) :=
  { S with H := S.H.app, hc := lsAt_append S.hc }
theorem St8.pick {n ci : Nat} {C : List (List Int)} {h' : Hp} (S : St8 n ci C cells h) (H : LH cells h') (hk : ∀ i, i ≠ 1 → lsAt h' i = lsAt h i) : St8 n ci C cells h' :=
  { S with H := H, hc := by rw [hk _ (by have := S.hc1; lia)]; exact S.hc }
theorem St8.set {n ci i : Nat} {C : List (List Int)} {o : O} (S : St8 n ci C cells h) (hi : 2 ≤ i) (hne : i ≠ ci) : St8 n ci C cells (h.set i o) :=
  { S with H := S.H.set hi, hc := by rw [lsAt_set_ne hne]; exact S.hc }

theorem law11 (G : GLaw Γ) {ci oi n : Nat} {C : List (List Int)} {W : List Int} (S : St8 n ci C cells h) (ho : lsAt h oi = some (dIs W)) (ho1 : 2 ≤ oi) (hW : Ord n W) :
    evB Γ 50 ((bodyAt 13).drop 11) (ELaw vscript (.ref 0) (.ref 1) vsquare (.int n) (.ref ci) vsizes vstep vsize vclause vj vliteral vm vspared vnames (.ref oi) vimpossible vrows vliterals vbegun vfails vat vkind vbad vtaken vdue) h LQ := by
  rw [law_step (by rfl)]
  conv in lawS 11 => whnf
  ((try simp only [Nat.reduceAdd, evS_Assign, evE_Call, evEs_cons, fE_ap, evE_Name, ELaw_g4, kNm_some, ne_eq, reduceCtorEq, not_false_eq_true, kE1_ap, ELaw_g5, evEs_nil, kE2_ap, kCa_ap, true_and]))
  have go : ∀ b : Bool, (b = true ↔ Unsat n C) → ∃ r h', Γ (Str.ofString "_law_impossible") [.int n, .ref ci] h r h' ∧ evB Γ 49 ((bodyAt 13).drop 12) (ELaw vscript (.ref 0) (.ref 1) vsquare (.int n) (.ref ci) vsizes vstep vsize vclause vj vliteral vm vspared vnames (.ref oi) r vrows vliterals vbegun vfails vat vkind vbad vtaken vdue) h' LQ := by
    intro b hb
    refine ⟨_, _, G.imp _ _ _ _ ⟨n, ci, C, b, rfl, S.hn, S.hc, by have := S.hCl; lia, fun c hc => (S.hC2 c hc).2, rfl, hb, rfl⟩, ?_⟩
    skip
    rw [law_step (by rfl)]
    conv in lawS 12 => whnf
    ((try simp only [Nat.reduceAdd, evS_Assign, evE_Call, evEs_cons, fE_ap, evE_Name, ELaw_g15, kNm_some, ne_eq, reduceCtorEq, not_false_eq_true, kE1_ap, ELaw_g1, ELaw_g2, evE_int, evEs_nil, kE2_ap, kCa_ap, true_and]))
    refine pick_rule G S.H (by decide) (by decide) fun d h' hd hl H' hk => ?_
    ((try simp only [kE1_ap, evEs_nil, kE2_ap, kCa_ap]))
    have S' := S.pick H' hk
    have ho' : lsAt h' oi = some (dIs W) := by rw [hk _ (by lia)]; exact ho
    have hW3 : W.length ≤ 3 := by rw [hW.len]; exact S.hn
    skip
    refine ⟨_, _, G.cases _ _ _ _ ⟨oi, d, W, rfl, ho', hW3, rfl, rfl⟩, ?_⟩
    ((try simp only [kAs_ap, hasL, ELaw_g17, Option.isSome_some, ELaw_s17, kB_next, true_and]))
    have hci := lsAt_lt S'.hc
    have h2 := H'.two
    exact law13 G { H := H'.app, hn := S.hn, hc := lsAt_append S'.hc, hr := lsAt_last, hCl := S.hCl, hC2 := S.hC2, hWl := casesF_len hW3, hW2 := casesF_row hW3, hW0 := casesF_pos, hne := by lia, hc1 := S.hc1, hr1 := h2, hib := hb.mpr, hfull := (full_iff (fun c hc => (S.hC2 c hc).2) hW).trans hb.symm }
  rw [callU (by rfl)]
  by_cases ht : Unsat n C
  · obtain ⟨r, h', g1, g2⟩ := go true (by simp [ht])
    refine ⟨r, h', g1, ?_⟩
    ((try simp only [kAs_ap, hasL, ELaw_g16, Option.isSome_some, ELaw_s16, kB_next, true_and]))
    exact g2
  · obtain ⟨r, h', g1, g2⟩ := go false (by simp [ht])
    refine ⟨r, h', g1, ?_⟩
    ((try simp only [kAs_ap, hasL, ELaw_g16, Option.isSome_some, ELaw_s16, kB_next, true_and]))
    exact g2

theorem map_erase : ∀ (l : List Int) (k : Nat), (dIs l).eraseIdx k = dIs (l.eraseIdx k)
  | [], _ => rfl
  | x :: l, 0 => rfl
  | x :: l, k + 1 => by
    show dI x :: (dIs l).eraseIdx k = dI x :: dIs (l.eraseIdx k)
    rw [map_erase l k]
theorem perm_erase : ∀ (l : List Int) (k : Nat) (h : k < l.length), (l[k] :: l.eraseIdx k).Perm l
  | x :: l, 0, _ => .refl _
  | x :: l, k + 1, h => (List.Perm.swap x (l[k]'(by simpa using h)) (l.eraseIdx k)).trans ((perm_erase l k (by simpa using h)).cons x)
theorem ord_of_perm {n : Nat} {W : List Int} (h : W.Perm (rangeList 1 ((n : Int) + 1) 1)) : Ord n W := by
  have e : rangeList 1 ((n : Int) + 1) 1 = (List.range n).map fun k : Nat => 1 + (k : Int) := by
    unfold rangeList
    rw [if_pos rfl, show ((n : Int) + 1 - 1).toNat = n by lia]
  rw [e] at h
  refine ⟨by rw [h.length_eq]; simp, fun x hx => ?_, fun v h0 h1 => ?_⟩
  · obtain ⟨k, hk, rfl⟩ := List.mem_map.mp (h.mem_iff.mp hx)
    have := List.mem_range.mp hk
    exact ⟨⟨by lia, by lia⟩, by lia⟩
  · exact h.mem_iff.mpr (List.mem_map.mpr ⟨v - 1, List.mem_range.mpr (by lia), by lia⟩)

theorem law8 (G : GLaw Γ) {ci n : Nat} {C : List (List Int)} (S : St8 n ci C cells h) :
    evB Γ 53 ((bodyAt 13).drop 8) (ELaw vscript (.ref 0) (.ref 1) vsquare (.int n) (.ref ci) vsizes vstep vsize vclause vj vliteral vm vspared vnames vorder vimpossible vrows vliterals vbegun vfails vat vkind vbad vtaken vdue) h LQ := by
  rw [law_step (by rfl)]
  conv in lawS 8 => whnf
  ((try simp only [Nat.reduceAdd, evS_Assign, evE_Call, evEs_cons, fE_ap, evE_int, kE1_ap, evE_Bin, evE_Name, ELaw_g4, kNm_some, ne_eq, reduceCtorEq, not_false_eq_true, kBi1_ap, kBi2_ap, bin_add, evEs_nil, kE2_ap, kCa_ap, cf_range2, true_and]))
  have hn := S.hn
  refine cf_listR (by decide) (by lia) ?_
  ((try simp only [kAs_ap, hasL, ELaw_g14, Option.isSome_some, ELaw_s14, kB_next, true_and]))
  rw [law_step (by rfl)]
  conv in lawS 9 => whnf
  ((try simp only [Nat.reduceAdd, evS_Assign, evE_List, evEs_nil, kLst_ap, datas_nil, List.length_nil, Nat.reduceLeDiff, kAs_ap, hasL, ELaw_g15, Option.isSome_some, ELaw_s15, kB_next, true_and]))
  rw [law_step (by rfl)]
  conv in lawS 10 => whnf
  ((try simp only [Nat.reduceAdd, evS_While, kB_ret, evB_cons, evS_Expr, evE_Meth, evE_Name, kB_next, evT_Compare, evE_Call, evEs_cons, fE_ap]))
  have len2 : ∀ o p : O, List.length ((h ++ [o]) ++ [p] : Hp) = h.length + 2 := fun ds => by simp
  have len1 : ∀ o : O, List.length ((h ++ [o]) : Hp) = h.length + 1 := fun ds => by simp
  rw [len2, len1]
  have hci := lsAt_lt S.hc
  have h2 := S.H.two
  have z0 : 0 < h.length + 2 := by lia
  have z1 : 1 < h.length + 2 := by lia
  have z2 : ci < h.length + 2 := by lia
  have z3 : h.length < h.length + 2 := by lia
  have z4 : h.length + 1 < h.length + 2 := by lia
  refine ⟨fun k m h' => ∃ g : Nat → V, m = (ELaw (g 0) (.ref 0) (.ref 1) (g 1) (.int n) (.ref ci) (g 2) (g 3) (g 4) (g 5) (g 6) (g 7) (g 8) (g 9) (.ref h.length) (.ref (h.length + 1)) (g 10) (g 11) (g 12) (g 13) (g 14) (g 15) (g 16) (g 17) (g 18) (g 19)) ∧ h'.length = h.length + 2 ∧ St8 n ci C cells h' ∧ ∃ N R, lsAt h' h.length = some (dIs N) ∧ lsAt h' (h.length + 1) = some (dIs R) ∧ k = N.length ∧ (R ++ N).Perm (rangeList 1 ((n : Int) + 1) 1), _, ⟨vg [_, _, _, _, _, _, _, _, _, _, _, _, _, _, _, _, _, _, _, _], rfl, len2 _ _, S.app.app, _, [], lsAt_append lsAt_last, ?_, rfl, .refl _⟩, ?_⟩
  · have := lsAt_last (h := h ++ [O.list (dIs (rangeList 1 ((n : Int) + 1) 1))]) (xs := [])
    rw [len1] at this
    exact this
  · rintro k m h' ⟨g, rfl, hl, S', N, R, hN, hR, rfl, hp⟩
    have hRN : R.length + N.length = n := by
      have := (ord_of_perm hp).len
      rwa [List.length_append] at this
    ((try simp only [ELaw_g15, kNm_some, ne_eq, reduceCtorEq, not_false_eq_true, kM1_ap, evEs_cons, fE_ap, evE_Meth, evE_Name, ELaw_g14, evE_Call, ELaw_g1, kE1_ap, ELaw_g2, evEs_nil, kE2_ap, kCa_ap, true_and]))
    refine ⟨by lia, cf_lenR hN (by rw [dIs_len]; lia) ?_⟩
    ((try simp only [kTC1_ap, evE_int, kTC2_ap, cmp_gt, kTC3_ap]))
    rw [dIs_len]
    skip
    by_cases h0 : 0 < N.length
    · rw [if_pos (by simpa using (by lia : (0 : Int) < N.length))]
      refine ⟨mo_append hR, mo_pop hN, cf_lenR hN (by rw [dIs_len]; lia) ?_⟩
      ((try simp only [kE1_ap, evEs_nil, kE2_ap, kCa_ap]))
      rw [dIs_len]
      skip
      refine pick_rule G S'.H (by lia) (by lia) fun d h3 hd hl3 H3 hk => ?_
      ((try simp only [kE1_ap, evEs_nil, kE2_ap, kM2_ap]))
      have S3 := S'.pick H3 hk
      have hN3 : lsAt h3 h.length = some (dIs N) := by rw [hk _ (by lia)]; exact hN
      have hR3 : lsAt h3 (h.length + 1) = some (dIs R) := by rw [hk _ (by lia)]; exact hR
      have hdN : d < N.length := by lia
      refine m_pop (x := .a (.int N[d])) hN3 (by rw [dIs_len]; lia) (by lia) (by lia) ?_ ?_
      · rw [Int.toNat_natCast, dIs, List.getElem?_map, List.getElem?_eq_getElem hdN]; rfl
      rw [Int.toNat_natCast]
      ((try simp only [kE1_ap, evEs_nil, kE2_ap, kM2_ap]))
      have e1 : (dIs N).eraseIdx d = dIs (N.eraseIdx d) := map_erase N d
      rw [e1]
      skip
      have hR4 : lsAt (h3.set h.length (.list (dIs (N.eraseIdx d)))) (h.length + 1) = some (dIs R) := by rw [lsAt_set_ne (by lia)]; exact hR3
      refine m_append hR4 (by rw [dIs_len]; lia) ?_
      ((try simp only [kX_ap, kB_next, evB_nil]))
      rw [dIs_snoc]
      skip
      have hlN := lsAt_lt hN3
      have hlR := lsAt_lt hR3
      refine ⟨N.length - 1, _, by lia, ?_, vg [.undef, .undef, .undef, .undef, .undef, .undef, .undef, .undef, .undef, .undef, .undef, .undef, .undef, .undef, .undef, .undef, .undef, .undef, .undef, .undef], rfl, ?_, ?_, N.eraseIdx d, R ++ [N[d]], ?_, ?_, ?_, ?_⟩
      · (repeat' (first | exact weak_nil | exact trivial | assumption | apply weak_drop | apply weak_keep))
      · rw [List.length_take, List.length_set, List.length_set]; lia
      all_goals try rw [List.take_of_length_le (by rw [List.length_set, List.length_set]; lia)]
      · exact (S3.set (by lia) (by lia)).set (by lia) (by lia)
      · rw [lsAt_set_ne (by lia)]; exact lsAt_set hlN
      · exact lsAt_set (by rw [List.length_set]; exact hlR)
      · rw [List.length_eraseIdx, if_pos hdN]
      · refine List.Perm.trans ?_ hp
        rw [List.append_assoc]
        exact List.Perm.append_left R (perm_erase N d hdN)
    · rw [if_neg (by simpa using (by lia : ¬ (0 : Int) < N.length))]
      have hN0 : N = [] := List.eq_nil_of_length_eq_zero (by lia)
      subst hN0
      rw [List.append_nil] at hp
      exact law11 G S' hR (by lia) (ord_of_perm hp)
end
end Mine

/-! P13 -/
namespace Mine
open PySem
section
variable {Γ : Gam} {n : Nat} {m : Loc} {h : Hp} {cells : List Int}
variable {vscript vcells vpot vsquare vcount vclauses vsizes vstep vsize vclause vj vliteral vm vspared vnames vorder vimpossible vrows vliterals vbegun vfails vat vkind vbad vtaken vdue : V}
/-- a clause's tuple joins the clauses -/
theorem join_cl {ci hn k : Nat} {C : List (List Int)} {K : List Int} {m1 m2 : Loc} {P : Loc → Hp → Prop} (S : St8 n ci C cells h) (hl : h.length = hn + 1) (hci : ci < hn) (hK : lsAt h hn = some (dIs K)) (hKl : K.length ≤ 3) (hKo : OkC n K) (hCl : C.length + k + 1 ≤ 8)
    (w : Weak hn m1 m2) (p : ∀ h', h'.length = hn → (∃ C', St8 n ci C' cells h' ∧ C'.length + k ≤ 8) → P m2 h') :
    methOk (Str.ofString "append") (.ref ci) h ∧ callF Γ (Str.ofString "tuple") [.ref hn] h fun v h' => meth (Str.ofString "append") (.ref ci) [v] h' fun x h' => ∃ m'', Weak hn m1 m'' ∧ P m'' (h'.take hn) := by
  refine ⟨mo_append S.hc, cf_tuple hK (by lia) (m_append S.hc (by rw [dCls_len]; lia) ?_)⟩
  rw [dCls_snoc]
  skip
  have h2 := S.hc1
  refine ⟨m2, w, p _ (by rw [List.length_take, List.length_set]; lia) ⟨C ++ [K], ⟨(S.H.set h2).take (by lia), S.hn, ?_, ?_, ?_, h2⟩, by rw [List.length_append, List.length_singleton]; lia⟩⟩
  · rw [lsAt_take hci]; exact lsAt_set (by lia)
  · rw [List.length_append, List.length_singleton]; lia
  · intro c hc
    rcases List.mem_append.mp hc with q | q
    · exact S.hC2 c q
    · rw [List.mem_singleton.mp q]; exact ⟨by lia, hKo⟩
/-- a literal joins the clause -/
theorem join_lit {ci hn : Nat} {C : List (List Int)} {K : List Int} {m1 m2 : Loc} {x : Int} {P : Loc → Hp → Prop} (S : St8 n ci C cells h) (hl : h.length = hn + 1) (hci : ci < hn) (hn2 : 2 ≤ hn) (hK : lsAt h hn = some (dIs K)) (hKl : K.length ≤ 3) (hKo : OkC n K) (hx : OkL n x)
    (w : Weak (hn + 1) m1 m2) (p : ∀ h', h'.length = hn + 1 → St8 n ci C cells h' → lsAt h' hn = some (dIs (K ++ [x])) → OkC n (K ++ [x]) → P m2 h') :
    meth (Str.ofString "append") (.ref hn) [.int x] h fun x h' => ∃ m'', Weak (hn + 1) m1 m'' ∧ P m'' (h'.take (hn + 1)) := by
  refine m_append hK (by rw [dIs_len]; lia) ?_
  skip
  rw [dIs_snoc, List.take_of_length_le (by rw [List.length_set]; lia)]
  refine ⟨m2, w, p _ (by rw [List.length_set]; exact hl) (S.set hn2 (by lia)) (lsAt_set (by lia)) ?_⟩
  intro l hl
  rcases List.mem_append.mp hl with q | q
  · exact hKo l q
  · rw [List.mem_singleton.mp q]; exact hx

noncomputable def sz8 : List Int := [0, 1, 1, 2, 2, 2, 3, 3]
inductive I13a (n ci : Nat) (cells : List Int) (h2 : Hp) (r : List Nat) (m : Loc) (h3 : Hp) : Prop
  | mk (g : Nat → V) (e0 : m = (ELaw (g 0) (.ref 0) (.ref 1) (g 1) (.int n) (.ref ci) (.d (.t (aIs sz8))) (g 2) (g 3) (g 4) (g 5) (g 6) (g 7) (g 8) (g 9) (g 10) (g 11) (g 12) (g 13) (g 14) (g 15) (g 16) (g 17) (g 18) (g 19) (g 20))) (e1 : h3.length = h2.length) (C : List (List Int)) (f0 : St8 n ci C cells h3) (f1 : C.length + r.length ≤ 8) : I13a n ci cells h2 r m h3
inductive I13b (n ci : Nat) (C : List (List Int)) (cells : List Int) (h2 : Hp) (sz : Nat) (r2 : List Nat) (m : Loc) (h5 : Hp) : Prop
  | mk (g : Nat → V) (e0 : m = (ELaw (g 0) (.ref 0) (.ref 1) (g 1) (.int n) (.ref ci) (.d (.t (aIs sz8))) (g 2) (g 3) (.ref h2.length) (g 4) (g 5) (g 6) (g 7) (g 8) (g 9) (g 10) (g 11) (g 12) (g 13) (g 14) (g 15) (g 16) (g 17) (g 18) (g 19))) (e1 : h5.length = h2.length + 1) (e2 : St8 n ci C cells h5) (K : List Int) (f0 : lsAt h5 h2.length = some (dIs K)) (f1 : K.length + r2.length ≤ sz) (f2 : OkC n K) : I13b n ci C cells h2 sz r2 m h5
inductive I13c (n ci : Nat) (cells : List Int) (h' : Hp) (r : List Nat) (m : Loc) (h3 : Hp) : Prop
  | mk (g : Nat → V) (e0 : m = (ELaw (g 0) (.ref 0) (.ref 1) (g 1) (.int n) (.ref ci) (g 2) (g 3) (g 4) (g 5) (g 6) (g 7) (g 8) (g 9) (g 10) (g 11) (g 12) (g 13) (g 14) (g 15) (g 16) (g 17) (g 18) (g 19) (g 20) (g 21))) (e1 : h3.length = h'.length) (e2 : (∃ C, St8 n ci C cells h3 ∧ C.length + r.length ≤ 8)) (e3 : ∀ a ∈ r, a < 2 ^ n) : I13c n ci cells h' r m h3
inductive I13d (n ci : Nat) (C : List (List Int)) (cells : List Int) (h' : Hp) (a d3 : Nat) (r2 : List Nat) (m : Loc) (h5 : Hp) : Prop
  | mk (g : Nat → V) (e0 : m = (ELaw (g 0) (.ref 0) (.ref 1) (g 1) (.int n) (.ref ci) (g 2) (g 3) (g 4) (.ref h'.length) (g 5) (g 6) (.int a) (.int d3) (g 7) (g 8) (g 9) (g 10) (g 11) (g 12) (g 13) (g 14) (g 15) (g 16) (g 17) (g 18))) (e1 : h5.length = h'.length + 1) (e2 : St8 n ci C cells h5) (e3 : (∃ K, lsAt h5 h'.length = some (dIs K) ∧ K.length + r2.length ≤ n ∧ OkC n K)) (e4 : ∀ j ∈ r2, j < n) : I13d n ci C cells h' a d3 r2 m h5
theorem law7 (G : GLaw Γ) (H : LH cells h) {ci n : Nat} (hn : n ≤ 3) (hc : lsAt h ci = some (dCls [])) (hc1 : 2 ≤ ci) :
    evB Γ 54 ((bodyAt 13).drop 7) (ELaw vscript (.ref 0) (.ref 1) vsquare (.int n) (.ref ci) vsizes vstep vsize vclause vj vliteral vm vspared vnames vorder vimpossible vrows vliterals vbegun vfails vat vkind vbad vtaken vdue) h LQ := by
  rw [law_step (by rfl)]
  conv in lawS 7 => whnf
  ((try simp only [Nat.reduceAdd, evS_If, evT_Compare, evE_Call, evEs_cons, fE_ap, evE_Name, ELaw_g1, kNm_some, ne_eq, reduceCtorEq, not_false_eq_true, kE1_ap, ELaw_g2, evE_int, evEs_nil, kE2_ap, kCa_ap, true_and]))
  have S : St8 n ci [] cells h := ⟨H, hn, hc, by decide, by simp, hc1⟩
  refine pick_rule G S.H (by decide) (by decide) fun d h' hd hl H' hk => ?_
  ((try simp only [kTC1_ap, evE_int, kTC2_ap, cmp_eq, kTC3_ap, kIf_ap, evB_cons, evS_Assign, evE_Tuple, evEs_cons, fE_ap, kE1_ap, evEs_nil, kE2_ap, kTup_ap, atoms_cons, atoms_nil, Option.map_some, List.length_cons, List.length_nil, Nat.reduceAdd, Nat.reduceLeDiff, kAs_ap, hasL, ELaw_g6, Option.isSome_some, ELaw_s6, kB_next, evS_ForCall, evE_Call, evE_Name, ELaw_g1, kNm_some, ne_eq, reduceCtorEq, not_false_eq_true, ELaw_g2, kCa_ap, true_and, evE_Bin, kBi1_ap, ELaw_g4, kBi2_ap, bin_shl, cf_range1, kFor_ap]))
  have S' := S.pick H' hk
  skip
  by_cases h0 : d = 0
  · rw [if_pos (by simpa using (by lia : (d : Int) = 0))]
    skip
    refine pick_rule G S'.H (by decide) (by decide) fun d2 h2 hd2 hl2 H2 hk2 => ?_
    ((try simp only [kE1_ap, evEs_nil, kE2_ap, kCa_ap, cf_range1, kFor_ap]))
    have S2 := S'.pick H2 hk2
    skip
    have hci := lsAt_lt S2.hc
    have two := H2.two
    have e8 : [At.int 0, At.int 1, At.int 1, At.int 2, At.int 2, At.int 2, At.int 3, At.int 3] = aIs sz8 := rfl
    rw [e8]
    have z0 : 0 < h2.length := by lia
    have z1 : 1 < h2.length := by lia
    have z0' : 0 < h2.length + 1 := by lia
    have z1' : 1 < h2.length + 1 := by lia
    have zc' : ci < h2.length + 1 := by lia
    have zh : h2.length < h2.length + 1 := by lia
    refine forV_nat (by lia) (I13a n ci cells h2) ?_ ?_ ?_
    · exact ⟨vg [_, _, _, _, _, _, _, _, _, _, _, _, _, _, _, _, _, _, _, _, _], rfl, rfl, [], S2, by simp; lia⟩
    · rintro a r m h3 ⟨g, rfl, hl3, C, S3, hCl⟩
      rw [List.length_cons] at hCl
      ((try simp only [hasL, ELaw_g7, Option.isSome_some, ELaw_s7, evB_cons, evS_Assign, evE_IfExp, evT_Compare, evE_Name, ELaw_g4, kNm_some, ne_eq, reduceCtorEq, not_false_eq_true, kTC1_ap, evE_int, kTC2_ap, cmp_gt, kTC3_ap, kIfE_ap, evE_SubCall, ELaw_g6, kIx1_ap, evE_Call, evEs_cons, fE_ap, ELaw_g1, kE1_ap, ELaw_g2, evEs_nil, kE2_ap, kCa_ap, true_and, kAs_ap, ELaw_g8, ELaw_s8, kB_next, evE_List, kLst_ap, datas_nil, List.length_nil, Nat.reduceLeDiff, ELaw_g9, ELaw_s9, evS_ForCall, cf_range1, kFor_ap]))
      by_cases hn0 : 0 < n
      · rw [if_pos (by simpa using hn0)]
        refine pick_rule G S3.H (by decide) (by decide) fun d3 h4 hd3 hl4 H4 hk4 => ?_
        ((try simp only [kIx2_ap]))
        have S4 := S3.pick H4 hk4
        rw [hl3] at hl4
        refine get_tup (by lia) (by lia) (show _ < 8 by lia) ?_
        ((try simp only [kV_ap, kAs_ap, hasL, ELaw_g8, Option.isSome_some, ELaw_s8, kB_next, evB_cons, evS_Assign, evE_List, evEs_nil, kLst_ap, datas_nil, List.length_nil, Nat.reduceLeDiff, ELaw_g9, ELaw_s9, evS_ForCall, evE_Call, evEs_cons, fE_ap, evE_Name, kNm_some, ne_eq, reduceCtorEq, not_false_eq_true, kE1_ap, kE2_ap, kCa_ap, cf_range1, kFor_ap, true_and]))
        have hs : ∃ sz : Nat, sz8.getD ((d3 : Int)).toNat 0 = sz ∧ sz ≤ 3 := by
          have : ∀ k < 8, (sz8.getD k 0 = ((sz8.getD k 0).toNat : Int)) ∧ (sz8.getD k 0).toNat ≤ 3 := by decide
          exact ⟨_, this _ (by lia)⟩
        obtain ⟨sz, e, hsz⟩ := hs
        rw [e]
        skip
        have len4 : List.length (h4 ++ [O.list []]) = h2.length + 1 := by simp [hl4]
        rw [hl4]
        refine forV_nat (by lia) (I13b n ci C cells h2 sz) ?_ ?_ ?_
        · have q := lsAt_last (h := h4) (xs := [])
          rw [hl4] at q
          exact ⟨vg [_, _, _, _, _, _, _, _, _, _, _, _, _, _, _, _, _, _, _, _], rfl, len4, S4.app, [], q, by simp, fun l hl => by cases hl⟩
        · rintro a2 r2 m h5 ⟨g, rfl, hl5, S5, K, hK, hKl, hKo⟩
          rw [List.length_cons] at hKl
          ((try simp only [hasL, ELaw_g10, Option.isSome_some, ELaw_s10, evB_cons, evS_Assign, evE_Bin, evE_int, kBi1_ap, evE_Call, evEs_cons, fE_ap, evE_Name, ELaw_g1, kNm_some, ne_eq, reduceCtorEq, not_false_eq_true, kE1_ap, ELaw_g2, ELaw_g4, evEs_nil, kE2_ap, kCa_ap, true_and]))
          refine pick_rule G S5.H (by lia) (by lia) fun d4 h6 hd4 hl6 H6 hk6 => ?_
          ((try simp only [kBi2_ap, bin_add, kAs_ap, hasL, ELaw_g11, Option.isSome_some, ELaw_s11, kB_next, evB_cons, evS_Expr, evE_Meth, evE_Name, ELaw_g9, kNm_some, ne_eq, reduceCtorEq, not_false_eq_true, kM1_ap, evEs_cons, fE_ap, evE_IfExp, evT_Compare, evE_Call, ELaw_g1, kE1_ap, ELaw_g2, evE_int, evEs_nil, kE2_ap, kCa_ap, true_and]))
          have S6 := S5.pick H6 hk6
          have hK6 : lsAt h6 h2.length = some (dIs K) := by rw [hk6 _ (by lia)]; exact hK
          skip
          refine ⟨mo_append hK6, pick_rule G S6.H (by decide) (by decide) fun d5 h7 hd5 hl7 H7 hk7 => ?_⟩
          ((try simp only [kTC1_ap, evE_int, kTC2_ap, cmp_eq, kTC3_ap, kIfE_ap, evE_Name, ELaw_g11, kNm_some, ne_eq, reduceCtorEq, not_false_eq_true, kE1_ap, evEs_nil, kE2_ap, kM2_ap, true_and, evE_Unary, kUn_ap, unop_neg, kV_ap]))
          have S7 := S6.pick H7 hk7
          have hK7 : lsAt h7 h2.length = some (dIs K) := by rw [hk7 _ (by lia)]; exact hK6
          skip
          rw [len4]
          by_cases q : d5 = 0
          · rw [if_pos (by simpa using (by lia : (d5 : Int) = 0))]
            refine join_lit (P := I13b n ci C cells h2 sz r2) S7 (by lia) hci two hK7 (by lia) hKo ⟨by lia, by lia⟩ ?_ fun h8 hl8 S8 hK8 hKo8 => ⟨vg [.undef, .undef, .undef, .undef, .undef, .undef, .undef, .undef, .undef, .undef, .undef, .undef, .undef, .undef, .undef, .undef, .undef, .undef, .undef, .undef], rfl, hl8, S8, _, hK8, by rw [List.length_append, List.length_singleton]; lia, hKo8⟩
            (repeat' (first | exact weak_nil | exact trivial | assumption | apply weak_drop | apply weak_keep))
          · rw [if_neg (by simpa using (by lia : ¬ (d5 : Int) = 0))]
            refine join_lit (P := I13b n ci C cells h2 sz r2) S7 (by lia) hci two hK7 (by lia) hKo ⟨by lia, by lia⟩ ?_ fun h8 hl8 S8 hK8 hKo8 => ⟨vg [.undef, .undef, .undef, .undef, .undef, .undef, .undef, .undef, .undef, .undef, .undef, .undef, .undef, .undef, .undef, .undef, .undef, .undef, .undef, .undef], rfl, hl8, S8, _, hK8, by rw [List.length_append, List.length_singleton]; lia, hKo8⟩
            (repeat' (first | exact weak_nil | exact trivial | assumption | apply weak_drop | apply weak_keep))
        · rintro m h5 ⟨g, rfl, hl5, S5, K, hK, hKl, hKo⟩
          ((try simp only [kB_next, evB_cons, evS_Expr, evE_Meth, evE_Name, ELaw_g5, kNm_some, ne_eq, reduceCtorEq, not_false_eq_true, kM1_ap, evEs_cons, fE_ap, evE_Call, ELaw_g9, kE1_ap, evEs_nil, kE2_ap, kCa_ap, true_and]))
          refine join_cl (P := I13a n ci cells h2 r) (k := r.length) S5 hl5 hci hK (by rw [List.length_nil] at hKl; lia) hKo (by lia) ?_ fun h8 hl8 ⟨C8, S8, hC8⟩ => ⟨vg [.undef, .undef, .undef, .undef, .undef, .undef, .undef, .undef, .undef, .undef, .undef, .undef, .undef, .undef, .undef, .undef, .undef, .undef, .undef, .undef, .undef], rfl, hl8, C8, S8, hC8⟩
          (repeat' (first | exact weak_nil | exact trivial | assumption | apply weak_drop | apply weak_keep))

      · rw [if_neg (by simpa using hn0)]
        have S4 := S3
        have hl4 := hl3
        skip
        show forV _ _ _ _ (V.range 0 ((0 : Nat) : Int) 1) _ _ _
        have len4 : List.length (h3 ++ [O.list []]) = h2.length + 1 := by simp [hl3]
        rw [hl3]
        refine forV_nat (by lia) (I13b n ci C cells h2 0) ?_ ?_ ?_
        · have q := lsAt_last (h := h3) (xs := [])
          rw [hl3] at q
          exact ⟨vg [_, _, _, _, _, _, _, _, _, _, _, _, _, _, _, _, _, _, _, _], rfl, len4, S4.app, [], q, by simp, fun l hl => by cases hl⟩
        · rintro a2 r2 m h5 ⟨g, rfl, hl5, S5, K, hK, hKl, hKo⟩
          rw [List.length_cons] at hKl
          ((try simp only [hasL, ELaw_g10, Option.isSome_some, ELaw_s10, evB_cons, evS_Assign, evE_Bin, evE_int, kBi1_ap, evE_Call, evEs_cons, fE_ap, evE_Name, ELaw_g1, kNm_some, ne_eq, reduceCtorEq, not_false_eq_true, kE1_ap, ELaw_g2, ELaw_g4, evEs_nil, kE2_ap, kCa_ap, true_and]))
          refine pick_rule G S5.H (by lia) (by lia) fun d4 h6 hd4 hl6 H6 hk6 => ?_
          ((try simp only [kBi2_ap, bin_add, kAs_ap, hasL, ELaw_g11, Option.isSome_some, ELaw_s11, kB_next, evB_cons, evS_Expr, evE_Meth, evE_Name, ELaw_g9, kNm_some, ne_eq, reduceCtorEq, not_false_eq_true, kM1_ap, evEs_cons, fE_ap, evE_IfExp, evT_Compare, evE_Call, ELaw_g1, kE1_ap, ELaw_g2, evE_int, evEs_nil, kE2_ap, kCa_ap, true_and]))
          have S6 := S5.pick H6 hk6
          have hK6 : lsAt h6 h2.length = some (dIs K) := by rw [hk6 _ (by lia)]; exact hK
          skip
          refine ⟨mo_append hK6, pick_rule G S6.H (by decide) (by decide) fun d5 h7 hd5 hl7 H7 hk7 => ?_⟩
          ((try simp only [kTC1_ap, evE_int, kTC2_ap, cmp_eq, kTC3_ap, kIfE_ap, evE_Name, ELaw_g11, kNm_some, ne_eq, reduceCtorEq, not_false_eq_true, kE1_ap, evEs_nil, kE2_ap, kM2_ap, true_and, evE_Unary, kUn_ap, unop_neg, kV_ap]))
          have S7 := S6.pick H7 hk7
          have hK7 : lsAt h7 h2.length = some (dIs K) := by rw [hk7 _ (by lia)]; exact hK6
          skip
          rw [len4]
          by_cases q : d5 = 0
          · rw [if_pos (by simpa using (by lia : (d5 : Int) = 0))]
            refine join_lit (P := I13b n ci C cells h2 0 r2) S7 (by lia) hci two hK7 (by lia) hKo ⟨by lia, by lia⟩ ?_ fun h8 hl8 S8 hK8 hKo8 => ⟨vg [.undef, .undef, .undef, .undef, .undef, .undef, .undef, .undef, .undef, .undef, .undef, .undef, .undef, .undef, .undef, .undef, .undef, .undef, .undef, .undef], rfl, hl8, S8, _, hK8, by rw [List.length_append, List.length_singleton]; lia, hKo8⟩
            (repeat' (first | exact weak_nil | exact trivial | assumption | apply weak_drop | apply weak_keep))
          · rw [if_neg (by simpa using (by lia : ¬ (d5 : Int) = 0))]
            refine join_lit (P := I13b n ci C cells h2 0 r2) S7 (by lia) hci two hK7 (by lia) hKo ⟨by lia, by lia⟩ ?_ fun h8 hl8 S8 hK8 hKo8 => ⟨vg [.undef, .undef, .undef, .undef, .undef, .undef, .undef, .undef, .undef, .undef, .undef, .undef, .undef, .undef, .undef, .undef, .undef, .undef, .undef, .undef], rfl, hl8, S8, _, hK8, by rw [List.length_append, List.length_singleton]; lia, hKo8⟩
            (repeat' (first | exact weak_nil | exact trivial | assumption | apply weak_drop | apply weak_keep))
        · rintro m h5 ⟨g, rfl, hl5, S5, K, hK, hKl, hKo⟩
          ((try simp only [kB_next, evB_cons, evS_Expr, evE_Meth, evE_Name, ELaw_g5, kNm_some, ne_eq, reduceCtorEq, not_false_eq_true, kM1_ap, evEs_cons, fE_ap, evE_Call, ELaw_g9, kE1_ap, evEs_nil, kE2_ap, kCa_ap, true_and]))
          refine join_cl (P := I13a n ci cells h2 r) (k := r.length) S5 hl5 hci hK (by rw [List.length_nil] at hKl; lia) hKo (by lia) ?_ fun h8 hl8 ⟨C8, S8, hC8⟩ => ⟨vg [.undef, .undef, .undef, .undef, .undef, .undef, .undef, .undef, .undef, .undef, .undef, .undef, .undef, .undef, .undef, .undef, .undef, .undef, .undef, .undef, .undef], rfl, hl8, C8, S8, hC8⟩
          (repeat' (first | exact weak_nil | exact trivial | assumption | apply weak_drop | apply weak_keep))
    · rintro m h3 ⟨g, rfl, hl3, C, S3, hCl⟩
      exact law8 G S3
  · rw [if_neg (by simpa using (by lia : ¬ (d : Int) = 0))]
    skip
    have hci := lsAt_lt S'.hc
    have two := H'.two
    have z0 : 0 < h'.length := by lia
    have z1 : 1 < h'.length := by lia
    have z0' : 0 < h'.length + 1 := by lia
    have z1' : 1 < h'.length + 1 := by lia
    have zc' : ci < h'.length + 1 := by lia
    have zh : h'.length < h'.length + 1 := by lia
    have p1 : (1 : Int) * 2 ^ ((n : Int)).toNat = ((2 ^ n : Nat) : Int) := by rw [Int.toNat_natCast]; simp
    have p2 : (2 : Nat) ^ n ≤ 8 := (Nat.pow_le_pow_right (by decide) hn)
    refine ⟨by lia, by lia, by decide, ?_⟩
    skip
    rw [p1]
    refine forV_nat (by lia) (I13c n ci cells h') ?_ ?_ ?_
    · exact ⟨vg [_, _, _, _, _, _, _, _, _, _, _, _, _, _, _, _, _, _, _, _, _, _], rfl, rfl, ⟨[], S', by simp; lia⟩, fun a ha => List.mem_range.mp ha⟩
    · rintro a r m h3 ⟨g, rfl, hl3, ⟨C, S3, hCl⟩, har⟩
      rw [List.length_cons] at hCl
      have ha := har a (.head _)
      have hr : ∀ a ∈ r, a < 2 ^ n := fun x hx => har x (.tail _ hx)
      ((try simp only [hasL, ELaw_g12, Option.isSome_some, ELaw_s12, evB_cons, evS_Assign, evE_Call, evEs_cons, fE_ap, evE_Name, ELaw_g1, kNm_some, ne_eq, reduceCtorEq, not_false_eq_true, kE1_ap, ELaw_g2, evE_Bin, ELaw_g4, kBi1_ap, evE_int, kBi2_ap, bin_add, evEs_nil, kE2_ap, kCa_ap, true_and]))
      refine pick_rule G S3.H (by lia) (by lia) fun d3 h4 hd3 hl4 H4 hk4 => ?_
      ((try simp only [kAs_ap, hasL, ELaw_g13, Option.isSome_some, ELaw_s13, kB_next, evB_cons, evS_Assign, evE_List, evEs_nil, kLst_ap, datas_nil, List.length_nil, Nat.reduceLeDiff, ELaw_g9, ELaw_s9, evS_ForCall, evE_Call, evEs_cons, fE_ap, evE_Name, ELaw_g4, kNm_some, ne_eq, reduceCtorEq, not_false_eq_true, kE1_ap, kE2_ap, kCa_ap, cf_range1, kFor_ap, true_and]))
      have S4 := S3.pick H4 hk4
      rw [hl3] at hl4
      have len4 : List.length (h4 ++ [O.list []]) = h'.length + 1 := by simp [hl4]
      skip
      rw [hl4]
      refine forV_nat (by lia) (I13d n ci C cells h' a d3) ?_ ?_ ?_
      · have q := lsAt_last (h := h4) (xs := [])
        rw [hl4] at q
        exact ⟨vg [_, _, _, _, _, _, _, _, _, _, _, _, _, _, _, _, _, _, _], rfl, len4, S4.app, ⟨[], q, by simp, fun l hl => by cases hl⟩, fun j hj => List.mem_range.mp hj⟩
      · rintro j r2 m h5 ⟨g, rfl, hl5, S5, ⟨K, hK, hKl, hKo⟩, hj⟩
        rw [List.length_cons] at hKl
        have hjn := hj j (.head _)
        have hj2 : ∀ j ∈ r2, j < n := fun x hx => hj x (.tail _ hx)
        ((try simp only [hasL, ELaw_g10, Option.isSome_some, ELaw_s10, evB_cons, evS_If, evT_Compare, evE_Name, kNm_some, ne_eq, reduceCtorEq, not_false_eq_true, kTC1_ap, ELaw_g13, kTC2_ap, cmp_ne, kTC3_ap, kIf_ap, evS_Expr, evE_Meth, ELaw_g9, kM1_ap, evEs_cons, fE_ap, evE_IfExp, evE_Bin, ELaw_g12, kBi1_ap, kBi2_ap, bin_shr, evE_int, bin_and, cmp_eq, kIfE_ap, evE_Unary, kUn_ap, unop_neg, kV_ap, bin_sub, kE1_ap, evEs_nil, kE2_ap, kM2_ap, true_and, bin_add, evB_nil, kB_next, kTu_next]))
        rw [len4]
        by_cases hjs : j = d3
        · rw [if_neg (by simp; lia)]
          refine ⟨_, ?_, vg [.undef, .undef, .undef, .undef, .undef, .undef, .undef, .undef, .undef, .undef, .undef, .undef, .undef, .undef, .undef, .undef, .undef, .undef, .undef], rfl, by rw [List.length_take]; lia, ?_, ⟨K, ?_, by lia, hKo⟩, hj2⟩
          · (repeat' (first | exact weak_nil | exact trivial | assumption | apply weak_drop | apply weak_keep))
          all_goals rw [List.take_of_length_le (by lia)]
          · exact S5
          · exact hK
        · rw [if_pos (by simp; lia)]
          refine ⟨mo_append hK, by lia, ?_⟩
          skip
          rw [bit8 a (by lia) j (by lia)]
          by_cases q : a.testBit j = true
          · rw [if_pos q]
            refine join_lit (P := I13d n ci C cells h' a d3 r2) S5 (by lia) hci two hK (by lia) hKo ⟨by lia, by lia⟩ ?_ fun h8 hl8 S8 hK8 hKo8 => ⟨vg [.undef, .undef, .undef, .undef, .undef, .undef, .undef, .undef, .undef, .undef, .undef, .undef, .undef, .undef, .undef, .undef, .undef, .undef, .undef], rfl, hl8, S8, ⟨_, hK8, by rw [List.length_append, List.length_singleton]; lia, hKo8⟩, hj2⟩
            (repeat' (first | exact weak_nil | exact trivial | assumption | apply weak_drop | apply weak_keep))
          · rw [if_neg q]
            refine join_lit (P := I13d n ci C cells h' a d3 r2) S5 (by lia) hci two hK (by lia) hKo ⟨by lia, by lia⟩ ?_ fun h8 hl8 S8 hK8 hKo8 => ⟨vg [.undef, .undef, .undef, .undef, .undef, .undef, .undef, .undef, .undef, .undef, .undef, .undef, .undef, .undef, .undef, .undef, .undef, .undef, .undef], rfl, hl8, S8, ⟨_, hK8, by rw [List.length_append, List.length_singleton]; lia, hKo8⟩, hj2⟩
            (repeat' (first | exact weak_nil | exact trivial | assumption | apply weak_drop | apply weak_keep))
      · rintro m h5 ⟨g, rfl, hl5, S5, ⟨K, hK, hKl, hKo⟩, -⟩
        ((try simp only [kB_next, evB_cons, evS_If, evT_Compare, evE_Name, ELaw_g13, kNm_some, ne_eq, reduceCtorEq, not_false_eq_true, kTC1_ap, evE_Bin, ELaw_g4, kBi1_ap, evE_int, kBi2_ap, bin_add, kTC2_ap, cmp_lt, kTC3_ap, kIf_ap, evS_Expr, evE_Meth, ELaw_g5, kM1_ap, evEs_cons, fE_ap, evE_Call, ELaw_g9, kE1_ap, evEs_nil, kE2_ap, kCa_ap, true_and, evB_nil, kTu_next]))
        by_cases hsp : (d3 : Int) < (n : Int) + 3
        · rw [if_pos (by simpa using hsp)]
          refine join_cl (P := I13c n ci cells h' r) (k := r.length) S5 hl5 hci hK (by rw [List.length_nil] at hKl; lia) hKo (by lia) ?_ fun h8 hl8 hC8 => ⟨vg [.undef, .undef, .undef, .undef, .undef, .undef, .undef, .undef, .undef, .undef, .undef, .undef, .undef, .undef, .undef, .undef, .undef, .undef, .undef, .undef, .undef, .undef], rfl, hl8, hC8, hr⟩
          (repeat' (first | exact weak_nil | exact trivial | assumption | apply weak_drop | apply weak_keep))
        · rw [if_neg (by simpa using hsp)]
          refine ⟨_, ?_, vg [.undef, .undef, .undef, .undef, .undef, .undef, .undef, .undef, .undef, .undef, .undef, .undef, .undef, .undef, .undef, .undef, .undef, .undef, .undef, .undef, .undef, .undef], rfl, by rw [List.length_take]; lia, ⟨C, { S5 with H := S5.H.take two, hc := ?_ }, by lia⟩, hr⟩
          · (repeat' (first | exact weak_nil | exact trivial | assumption | apply weak_drop | apply weak_keep))
          · rw [lsAt_take hci]; exact S5.hc
    · rintro m h3 ⟨g, rfl, hl3, ⟨C, S3, hCl⟩, -⟩
      exact law8 G S3
end
end Mine

/-! P14 -/
namespace Mine
open PySem
section
variable {Γ : Gam} {n : Nat} {m : Loc} {h : Hp} {cells : List Int}
variable {vscript vcells vpot vsquare vcount vclauses vsizes vstep vsize vclause vj vliteral vm vspared vnames vorder vimpossible vrows vliterals vbegun vfails vat vkind vbad vtaken vdue : V}
theorem law5 (G : GLaw Γ) (H : LH cells h) : evB Γ 56 ((bodyAt 13).drop 5) (ELaw vscript (.ref 0) (.ref 1) vsquare vcount vclauses vsizes vstep vsize vclause vj vliteral vm vspared vnames vorder vimpossible vrows vliterals vbegun vfails vat vkind vbad vtaken vdue) h LQ := by
  rw [law_step (by rfl)]
  conv in lawS 5 => whnf
  ((try simp only [Nat.reduceAdd, evS_Assign, evE_Bin, evE_int, kBi1_ap, evE_Call, evEs_cons, fE_ap, evE_Name, ELaw_g1, kNm_some, ne_eq, reduceCtorEq, not_false_eq_true, kE1_ap, ELaw_g2, evEs_nil, kE2_ap, kCa_ap, true_and]))
  refine pick_rule G H (by decide) (by decide) fun d h' hd hl H' hk => ?_
  ((try simp only [kBi2_ap, bin_sub, kAs_ap, hasL, ELaw_g4, Option.isSome_some, ELaw_s4, kB_next, true_and]))
  rw [law_step (by rfl)]
  conv in lawS 6 => whnf
  ((try simp only [Nat.reduceAdd, evS_Assign, evE_List, evEs_nil, kLst_ap, datas_nil, List.length_nil, Nat.reduceLeDiff, kAs_ap, hasL, ELaw_g5, Option.isSome_some, ELaw_s5, kB_next, true_and]))
  rw [show (3 : Int) - d = ((3 - d : Nat) : Int) by lia]
  exact law7 G H'.app (by lia) lsAt_last H'.two

noncomputable def sq : List (List Int) := [[1, 2], [1, -2], [-1, 2], [-1, -2]]
theorem sq_ok : ∀ c ∈ sq, OkC 2 c := by
  intro c hc
  rw [← icB_ok]
  revert c
  decide
theorem sq_unsat : Unsat 2 sq := by
  unfold Unsat; decide
theorem sq3_sat : ¬ Unsat 2 (sq.take 3) := by
  unfold Unsat; decide
theorem taken_rule (G : GLaw Γ) {n ci ri : Nat} {C W : List (List Int)} {b : Bool} {Q : V → Hp → Prop} (hc : lsAt h ci = some (dCls C)) (hr : lsAt h ri = some (dCls W)) (hn : n ≤ 100) (hl : C.length + W.length ≤ 1000) (hW : ∀ w ∈ W, w.length ≤ 1000) (hb : b = true ↔ Takes n C W)
    (q : Q (.int (if b = true then 1 else 0)) h) : ∃ r h', Γ (Str.ofString "_law_taken") [.int n, .ref ci, .ref ri] h r h' ∧ Q r h' :=
  ⟨_, _, G.taken _ _ _ _ ⟨n, ci, ri, C, W, b, rfl, hc, hr, hn, hl, hW, rfl, hb, rfl⟩, q⟩

theorem ord12 : Ord 2 [1, 2] := ord_of_perm (n := 2) (.refl _)
theorem law4 (G : GLaw Γ) (H : LH cells h) (hs : lsAt h 2 = some (dCls sq)) : evB Γ 57 ((bodyAt 13).drop 4) (ELaw vscript (.ref 0) (.ref 1) (.ref 2) vcount vclauses vsizes vstep vsize vclause vj vliteral vm vspared vnames vorder vimpossible vrows vliterals vbegun vfails vat vkind vbad vtaken vdue) h LQ := by
  rw [law_step (by rfl)]
  conv in lawS 4 => whnf
  ((try simp only [Nat.reduceAdd, evS_If, evT_BoolOp, all_or, fT_ap, evT_Compare, evE_Call, evEs_cons, fE_ap, evE_int, kE1_ap, evE_Slice, evE_Name, ELaw_g3, kNm_some, ne_eq, reduceCtorEq, not_false_eq_true, kSl1_ap, evPart_none, kSl2_ap, evPart_some, kPt_ap, kSl3_ap, true_and]))
  refine sl_take hs (by decide) (by decide) ?_
  ((try simp only [kE1_ap, evEs_cons, fE_ap, evE_Call, evE_List, evE_int, evEs_nil, kE2_ap, kLst_ap, datas_cons, datas_nil, Option.map_some, List.length_cons, List.length_nil, Nat.reduceAdd, Nat.reduceLeDiff, kCa_ap, true_and]))
  have e3 : (dCls sq).take ((3 : Int)).toNat = dCls (sq.take 3) := rfl
  rw [e3]
  have l3 : lsAt (h ++ [O.list (dCls (sq.take 3))]) h.length = some (dCls (sq.take 3)) := lsAt_last
  have len1 : List.length (h ++ [O.list (dCls (sq.take 3))]) = h.length + 1 := by simp
  skip
  refine ⟨_, _, G.cases _ _ _ _ ⟨_, 1, [2, 1], rfl, lsAt_last, by decide, rfl, rfl⟩, ?_⟩
  ((try simp only [kE1_ap, evEs_nil, kE2_ap, kCa_ap]))
  refine taken_rule G (n := 2) (b := false) (C := sq.take 3) (W := casesF [2, 1] 1) (lsAt_append (lsAt_append l3)) lsAt_last (by decide) ?_ ?_ ?_ ?_
  · have := casesF_len (W := [2, 1]) (t := 1) (by decide)
    show 3 + _ ≤ 1000
    lia
  · exact fun w hw => by have := casesF_row (W := [2, 1]) (by decide) w hw; lia
  · have : ¬ Takes 2 (sq.take 3) (casesF [2, 1] 1) := fun t => sq3_sat t.unsat
    simp [this]
  ((try simp only [Bool.false_eq_true, if_false, kTC1_ap, evE_int, kTC2_ap, cmp_ne, kTC3_ap, kOr_ap, kIf_ap, evB_cons, evS_Return, evE_bool, kR_ap, kB_ret, evB_nil, kB_next, if_true, all_or, fT_ap, evT_Compare, evE_Call, evEs_cons, fE_ap, kE1_ap, evE_Name, ELaw_g3, kNm_some, ne_eq, reduceCtorEq, not_false_eq_true, evE_List, evEs_nil, kLst_ap, datas_nil, List.length_nil, Nat.reduceLeDiff, kE2_ap, kCa_ap, true_and]))
  rw [if_neg (by decide)]
  refine taken_rule G (n := 2) (b := false) (C := sq) (W := []) (lsAt_append (lsAt_append (lsAt_append (lsAt_append hs)))) lsAt_last (by decide) (by decide) (by simp) ?_ ?_
  · have : ¬ Takes 2 sq [] := fun t => by cases t.2.2
    simp [this]
  ((try simp only [Bool.false_eq_true, if_false, kTC1_ap, evE_int, kTC2_ap, cmp_ne, kTC3_ap, kOr_ap, kIf_ap, evB_cons, evS_Return, evE_bool, kR_ap, kB_ret, evB_nil, kB_next, if_true, all_or_nil]))
  rw [if_neg (by decide)]
  exact law5 G H.app.app.app.app
theorem law3 (G : GLaw Γ) (H : LH cells h) (hs : lsAt h 2 = some (dCls sq)) : evB Γ 58 ((bodyAt 13).drop 3) (ELaw vscript (.ref 0) (.ref 1) (.ref 2) vcount vclauses vsizes vstep vsize vclause vj vliteral vm vspared vnames vorder vimpossible vrows vliterals vbegun vfails vat vkind vbad vtaken vdue) h LQ := by
  rw [law_step (by rfl)]
  conv in lawS 3 => whnf
  ((try simp only [Nat.reduceAdd, evS_If, evT_Compare, evE_Call, evEs_cons, fE_ap, evE_int, kE1_ap, evE_Name, ELaw_g3, kNm_some, ne_eq, reduceCtorEq, not_false_eq_true, evE_List, evEs_nil, kE2_ap, kLst_ap, datas_cons, datas_nil, Option.map_some, List.length_cons, List.length_nil, Nat.reduceLeDiff, kCa_ap, true_and]))
  refine ⟨_, _, G.cases _ _ _ _ ⟨_, 0, [1, 2], rfl, lsAt_last, by decide, rfl, rfl⟩, ?_⟩
  ((try simp only [kE1_ap, evEs_nil, kE2_ap, kCa_ap]))
  have c1 : (casesF [1, 2] 0).length ≤ 50 := casesF_len (by decide)
  refine taken_rule G (n := 2) (b := true) (C := sq) (W := casesF [1, 2] 0) (lsAt_append (lsAt_append hs)) lsAt_last (by decide) ?_ (fun w hw => by have := casesF_row (W := [1, 2]) (by decide) w hw; lia) ?_ ?_
  · show 4 + _ ≤ 1000
    lia
  · simp [full_taken sq_ok ord12 sq_unsat]
  ((try simp only [if_true, kTC1_ap, evE_int, kTC2_ap, cmp_ne, kTC3_ap, kIf_ap, evB_cons, evS_Return, evE_bool, kR_ap, kB_ret, evB_nil, kB_next]))
  exact law4 G H.app.app (lsAt_append (lsAt_append hs))
theorem law1 (G : GLaw Γ) (hl : cells.length ≤ 1000) : evB Γ 60 ((bodyAt 13).drop 1) (ELaw vscript (.ref 0) vpot vsquare vcount vclauses vsizes vstep vsize vclause vj vliteral vm vspared vnames vorder vimpossible vrows vliterals vbegun vfails vat vkind vbad vtaken vdue) [.list (dIs cells)] LQ := by
  rw [law_step (by rfl)]
  conv in lawS 1 => whnf
  ((try simp only [Nat.reduceAdd, evS_Assign, evE_List, evEs_cons, fE_ap, evE_int, kE1_ap, evEs_nil, kE2_ap, kLst_ap, datas_cons, datas_nil, Option.map_some, List.length_cons, List.length_nil, Nat.reduceLeDiff, kAs_ap, hasL, ELaw_g2, Option.isSome_some, ELaw_s2, kB_next, true_and]))
  rw [law_step (by rfl)]
  conv in lawS 2 => whnf
  ((try simp only [Nat.reduceAdd, evS_Assign, evE_List, evEs_cons, fE_ap, evE_Tuple, evE_int, kE1_ap, evEs_nil, kE2_ap, kTup_ap, atoms_cons, atoms_nil, Option.map_some, List.length_cons, List.length_nil, Nat.reduceLeDiff, evE_Unary, kUn_ap, unop_neg, kV_ap, kLst_ap, datas_cons, datas_nil, kAs_ap, hasL, ELaw_g3, Option.isSome_some, ELaw_s3, kB_next, true_and]))
  exact law3 G ⟨hl, rfl, 0, 0, 1, rfl, by decide, by decide, by decide⟩ rfl
end
end Mine

/-! S1 -/
namespace Mine
open PySem

/-! the tables of small sets -/
noncomputable def Rising (xs : List Nat) : Prop := List.Pairwise (fun a b => a < b) xs

theorem below_go (xs : Array Nat) (j : Nat) (hr : Rising xs.toList) : ∀ (fuel lo hi : Nat), hi - lo ≤ fuel → lo ≤ hi → hi ≤ xs.size → (∀ i < lo, xs.getD i j < j) → (∀ i, hi ≤ i → i < xs.size → j ≤ xs.getD i j) →
    SetTable.below.go xs j fuel lo hi ≤ xs.size ∧ (∀ i < SetTable.below.go xs j fuel lo hi, xs.getD i j < j) ∧ ∀ i, SetTable.below.go xs j fuel lo hi ≤ i → i < xs.size → j ≤ xs.getD i j
  | 0, lo, hi, hf, hl, hh, h1, h2 => by
    have : lo = hi := by lia
    subst this
    exact ⟨hh, h1, h2⟩
  | fuel + 1, lo, hi, hf, hl, hh, h1, h2 => by
    unfold SetTable.below.go
    by_cases hlt : lo < hi
    · rw [if_pos hlt]
      dsimp only
      have hm : (lo + hi) / 2 < xs.size := by lia
      have mono : ∀ a b, a ≤ b → b < xs.size → xs.getD a j ≤ xs.getD b j := by
        intro a b hab hb
        rw [Array.getD_eq_getD_getElem?, Array.getD_eq_getD_getElem?, Array.getElem?_eq_getElem hb, Array.getElem?_eq_getElem (by lia : a < xs.size)]
        rcases Nat.lt_or_ge a b with h | h
        · have := List.pairwise_iff_getElem.mp hr a b (by simp; lia) (by simp; lia) h
          simp at this ⊢
          lia
        · have : a = b := by lia
          subst this; simp
      by_cases hc : xs.getD ((lo + hi) / 2) j < j
      · rw [if_pos hc]
        refine below_go xs j hr fuel ((lo + hi) / 2 + 1) hi (by lia) (by lia) hh (fun i hi' => ?_) h2
        exact Nat.lt_of_le_of_lt (mono i _ (by lia) hm) hc
      · rw [if_neg hc]
        refine below_go xs j hr fuel lo ((lo + hi) / 2) (by lia) (by lia) (by lia) h1 fun i hi' hi2 => ?_
        exact Nat.le_trans (Nat.le_of_not_lt hc) (mono _ i hi' hi2)
    · rw [if_neg hlt]
      have : lo = hi := by lia
      subst this
      exact ⟨hh, h1, h2⟩
theorem below_spec (xs : Array Nat) (j : Nat) (hr : Rising xs.toList) : SetTable.below xs j ≤ xs.size ∧ (∀ i < SetTable.below xs j, xs.getD i j < j) ∧ ∀ i, SetTable.below xs j ≤ i → i < xs.size → j ≤ xs.getD i j :=
  below_go xs j hr xs.size 0 xs.size (by lia) (Nat.zero_le _) (Nat.le_refl _) (fun i h => by lia) fun i h1 h2 => by lia

theorem getD_of {xs : Array Nat} {i j : Nat} (h : i < xs.size) : xs.getD i j = xs.toList[i]'(by simpa using h) := by
  rw [Array.getD_eq_getD_getElem?, Array.getElem?_eq_getElem h]; simp

theorem below_at {xs : Array Nat} {j : Nat} (hr : Rising xs.toList) : xs[SetTable.below xs j]? = some j ↔ j ∈ xs.toList := by
  obtain ⟨h1, h2, h3⟩ := below_spec xs j hr
  constructor
  · intro h
    rw [← Array.getElem?_toList] at h
    exact List.mem_of_getElem? h
  · intro h
    obtain ⟨i, hi, e⟩ := List.mem_iff_getElem.mp h
    have hi' : i < xs.size := by simpa using hi
    have ge : SetTable.below xs j ≤ i := by
      rcases Nat.lt_or_ge i (SetTable.below xs j) with q | q
      · have := h2 i q
        rw [getD_of hi', e] at this
        lia
      · exact q
    rcases Nat.lt_or_ge (SetTable.below xs j) i with q | q
    · have a := h3 _ (Nat.le_refl _) (by lia)
      rw [getD_of (by lia)] at a
      have b := List.pairwise_iff_getElem.mp hr _ _ (by simp; lia) hi q
      rw [e] at b
      lia
    · have : SetTable.below xs j = i := by lia
      rw [this, ← Array.getElem?_toList, List.getElem?_eq_getElem hi, e]

theorem rising_insert {xs : Array Nat} {j : Nat} (hr : Rising xs.toList) (hj : j ∉ xs.toList) : Rising (SetTable.insertAt xs (SetTable.below xs j) j).toList := by
  obtain ⟨h1, h2, h3⟩ := below_spec xs j hr
  rw [SetTable.toList_insertAt]
  unfold Rising at hr ⊢
  rw [List.pairwise_append]
  refine ⟨hr.sublist (List.take_sublist ..), ?_, ?_⟩
  · rw [List.pairwise_cons]
    refine ⟨fun y hy => ?_, hr.sublist (List.drop_sublist ..)⟩
    obtain ⟨i, hi, e⟩ := List.mem_iff_getElem.mp hy
    rw [List.getElem_drop] at e
    rw [List.length_drop] at hi
    have hlt : SetTable.below xs j + i < xs.size := by simp at hi; lia
    have := h3 (SetTable.below xs j + i) (by lia) hlt
    rw [getD_of hlt, e] at this
    have : y ≠ j := fun z => hj (z ▸ List.mem_of_mem_drop hy)
    lia
  · intro a ha b hb
    have ha' : a < j := by
      obtain ⟨i, hi, e⟩ := List.mem_iff_getElem.mp ha
      rw [List.getElem_take] at e
      rw [List.length_take] at hi
      have hlt : i < xs.size := by simp at hi; lia
      have := h2 i (by lia)
      rw [getD_of hlt, e] at this
      exact this
    rcases List.mem_cons.mp hb with rfl | hb
    · exact ha'
    · obtain ⟨i, hi, e⟩ := List.mem_iff_getElem.mp hb
      rw [List.getElem_drop] at e
      rw [List.length_drop] at hi
      have hlt : SetTable.below xs j + i < xs.size := by simp at hi; lia
      have := h3 (SetTable.below xs j + i) (by lia) hlt
      rw [getD_of hlt, e] at this
      lia

/-! the steps of a search reach each slot -/
noncomputable def goodMask (m : Nat) : Prop := m = 7 ∨ m = 15 ∨ m = 31 ∨ m = 63
noncomputable def it (mask : Nat) : Nat → Nat × Nat → Nat × Nat
  | 0, p => p
  | k + 1, p => it mask k (SetTable.leap mask p.1 p.2)
theorem it_add (mask : Nat) : ∀ (a b : Nat) (p : Nat × Nat), it mask (a + b) p = it mask b (it mask a p)
  | 0, b, p => by rw [Nat.zero_add]; rfl
  | a + 1, b, p => by
    rw [show a + 1 + b = (a + b) + 1 by lia]
    exact it_add mask a b _
theorem it_p (mask : Nat) : ∀ (k : Nat) (p : Nat × Nat), (it mask k p).2 = p.2 / 32 ^ k
  | 0, p => by simp [it]
  | k + 1, p => by
    show (it mask k (SetTable.leap mask p.1 p.2)).2 = _
    rw [it_p mask k]
    show p.2 / 32 / 32 ^ k = _
    rw [Nat.div_div_eq_div_mul, Nat.pow_succ, Nat.mul_comm]
theorem it_lt (mask : Nat) : ∀ (k : Nat) (p : Nat × Nat), p.1 ≤ mask → (it mask k p).1 ≤ mask
  | 0, p, h => h
  | k + 1, p, h => it_lt mask k _ (by show (p.1 * 5 + 1 + p.2 / 32) % (mask + 1) ≤ mask; have := Nat.mod_lt (p.1 * 5 + 1 + p.2 / 32) (show 0 < mask + 1 by lia); lia)
noncomputable def cyc (mask : Nat) : Bool := ((it mask (mask + 1) (0, 0)).1 == 0) && (List.range (mask + 1)).all fun j => (List.range (mask + 1)).any fun k => (it mask k (0, 0)).1 == j
theorem cyc7 : cyc 7 = true := by decide +kernel
theorem cyc15 : cyc 15 = true := by decide +kernel
theorem cyc31 : cyc 31 = true := by decide +kernel
theorem cyc63 : cyc 63 = true := by decide +kernel
theorem it_zero (mask k i : Nat) : it mask k (i, 0) = ((it mask k (i, 0)).1, 0) := by
  have := it_p mask k (i, 0)
  rw [Nat.zero_div] at this
  exact Prod.ext rfl this
theorem cyc_all {mask : Nat} (hc : cyc mask = true) {i j : Nat} (hi : i ≤ mask) (hj : j ≤ mask) : ∃ k < mask + 1, (it mask k (i, 0)).1 = j := by
  unfold cyc at hc
  rw [Bool.and_eq_true] at hc
  obtain ⟨c0, c1⟩ := hc
  have h0 : it mask (mask + 1) (0, 0) = (0, 0) := by rw [it_zero]; simpa using c0
  have get : ∀ j ≤ mask, ∃ k < mask + 1, it mask k (0, 0) = (j, 0) := by
    intro j hj
    obtain ⟨k, hk, e⟩ := List.any_eq_true.mp (List.all_eq_true.mp c1 j (List.mem_range.mpr (by lia)))
    exact ⟨k, List.mem_range.mp hk, by rw [it_zero]; simpa using e⟩
  obtain ⟨a, ha, ea⟩ := get i hi
  obtain ⟨b, hb, eb⟩ := get j hj
  rcases Nat.lt_or_ge b a with q | q
  · refine ⟨mask + 1 - a + b, by lia, ?_⟩
    rw [it_add mask (mask + 1 - a) b, ← ea, ← it_add mask a (mask + 1 - a), show a + (mask + 1 - a) = mask + 1 by lia, h0, eb]
  · refine ⟨b - a, by lia, ?_⟩
    rw [← ea, ← it_add, show a + (b - a) = b by lia, eb]
theorem cover {mask i p j : Nat} (hm : goodMask mask) (hi : i ≤ mask) (hp : p < 2 ^ 64) (hj : j ≤ mask) : ∃ k < mask + 14, (it mask k (i, p)).1 = j := by
  have hc : cyc mask = true := by
    rcases hm with rfl | rfl | rfl | rfl
    · exact cyc7
    · exact cyc15
    · exact cyc31
    · exact cyc63
  have h13 : (it mask 13 (i, p)).2 = 0 := by
    rw [it_p]
    exact Nat.div_eq_of_lt (Nat.lt_of_lt_of_le hp (by decide))
  have hl := it_lt mask 13 (i, p) hi
  generalize hq : it mask 13 (i, p) = q at h13 hl
  obtain ⟨i', p'⟩ := q
  dsimp only at h13 hl
  subst h13
  obtain ⟨k, hk, e⟩ := cyc_all hc hl hj
  refine ⟨13 + k, by lia, ?_⟩
  rw [it_add, hq, e]

/-! a clean table -/
noncomputable def isFree (owner : Array (Option Nat)) (j : Nat) : Prop := owner.getD j (some 0) = none
theorem free_some {mask : Nat} {owner : Array (Option Nat)} : ∀ (fuel i p : Nat), i ≤ mask → (∃ k < fuel, isFree owner (it mask k (i, p)).1) → ∃ j, SetTable.layClean.free mask owner fuel i p = some j ∧ isFree owner j := by
  intro fuel
  induction fuel with
  | zero =>
    intro i p _ h
    obtain ⟨k, hk, _⟩ := h; lia
  | succ fuel ih =>
    intro i p hi h
    unfold SetTable.layClean.free
    cases q : (List.range (SetTable.runEnd mask i + 1 - i)).find? fun k => (owner.getD (i + k) (some 0)).isNone with
    | some k =>
      exact ⟨i + k, rfl, by have := List.find?_some q; unfold isFree; simpa using this⟩
    | none =>
      dsimp only
      obtain ⟨k, hk, hf⟩ := h
      have hne : k ≠ 0 := by
        rintro rfl
        have := List.find?_eq_none.mp q 0 (List.mem_range.mpr (by unfold SetTable.runEnd; split <;> lia))
        apply this
        have hf : owner.getD i (some 0) = none := hf
        simp [hf]
      obtain ⟨k, rfl⟩ : ∃ k', k = k' + 1 := ⟨k - 1, by lia⟩
      exact ih _ _ (by show (i * 5 + 1 + p / 32) % (mask + 1) ≤ mask; have := Nat.mod_lt (i * 5 + 1 + p / 32) (show 0 < mask + 1 by lia); lia) ⟨k, by lia, hf⟩

noncomputable def live (O : List (Option Nat)) : List Nat := O.filterMap id
theorem live_set {k : Nat} : ∀ {O : List (Option Nat)} {j : Nat}, O[j]? = some none → (live (O.set j (some k))).Perm (k :: live O)
  | [], j, h => by simp at h
  | o :: O, 0, h => by
    simp only [List.getElem?_cons_zero, Option.some.injEq] at h
    subst h
    exact .refl _
  | o :: O, j + 1, h => by
    simp only [List.getElem?_cons_succ] at h
    have ih := live_set (k := k) h
    cases o with
    | none => exact ih
    | some x => exact (ih.cons x).trans (.swap _ _ _)
theorem live_len_set {k : Nat} {O : List (Option Nat)} {j : Nat} (h : O[j]? = some none) : (live (O.set j (some k))).length = (live O).length + 1 := by
  rw [(live_set h).length_eq]; rfl
theorem exists_none : ∀ {O : List (Option Nat)}, (live O).length < O.length → ∃ j : Nat, O[j]? = some none
  | [], h => by simp at h
  | none :: O, _ => ⟨0, rfl⟩
  | some x :: O, h => by
    have : (live O).length < O.length := by
      have e : (live (some x :: O)).length = (live O).length + 1 := rfl
      rw [e, List.length_cons] at h
      lia
    obtain ⟨j, hj⟩ := exists_none this
    exact ⟨j + 1, hj⟩
theorem bits_lt (h : Int) : SetTable.bits h < 2 ^ 64 := by
  unfold SetTable.bits
  have := Int.emod_lt_of_pos h (by decide : (0 : Int) < 2 ^ 64)
  have := Int.emod_nonneg h (by decide : (2 ^ 64 : Int) ≠ 0)
  lia

theorem lay_fold {mask : Nat} (hm : goodMask mask) : ∀ (hs : List Int) (owner : Array (Option Nat)) (k : Nat), owner.size = mask + 1 → (live owner.toList).length + hs.length ≤ mask + 1 →
    ∃ owner' : Array (Option Nat), (hs.foldl (init := some (owner, k)) fun acc h => do
      let (owner, k) ← acc
      let j ← SetTable.layClean.free mask owner (SetTable.turns mask) (SetTable.bits h % (mask + 1)) (SetTable.bits h)
      pure (owner.setIfInBounds j (some k), k + 1)) = some (owner', k + hs.length) ∧ owner'.size = mask + 1 ∧ (live owner'.toList).Perm ((List.range hs.length).map (k + ·) ++ live owner.toList) := by
  intro hs
  induction hs with
  | nil =>
    intro owner k hs _
    exact ⟨owner, rfl, hs, .refl _⟩
  | cons h hs ih =>
    intro owner k hsz hl
    rw [List.length_cons] at hl
    obtain ⟨j0, hj0⟩ := exists_none (O := owner.toList) (by simp [hsz]; lia)
    have hj0l : j0 ≤ mask := by have := (List.getElem?_eq_some_iff.mp hj0).1; simp [hsz] at this; lia
    obtain ⟨c, hc, e⟩ := cover (p := SetTable.bits h) hm (i := SetTable.bits h % (mask + 1)) (by have := Nat.mod_lt (SetTable.bits h) (show 0 < mask + 1 by lia); lia) (bits_lt h) hj0l
    obtain ⟨j, hj, hf⟩ := free_some (mask := mask) (owner := owner) (SetTable.turns mask) (SetTable.bits h % (mask + 1)) (SetTable.bits h) (by have := Nat.mod_lt (SetTable.bits h) (show 0 < mask + 1 by lia); lia) ⟨c, by unfold SetTable.turns; lia, by
      rw [e]; unfold isFree
      rw [Array.getD_eq_getD_getElem?, ← Array.getElem?_toList, hj0]; rfl⟩
    have hjl : owner.toList[j]? = some none := by
      unfold isFree at hf
      rw [Array.getD_eq_getD_getElem?, ← Array.getElem?_toList] at hf
      cases q : owner.toList[j]? with
      | none => rw [q] at hf; cases hf
      | some o => rw [q] at hf; simp at hf; rw [hf]
    have hset : (owner.setIfInBounds j (some k)).toList = owner.toList.set j (some k) := by simp
    obtain ⟨owner', h1, h2, h3⟩ := ih (owner.setIfInBounds j (some k)) (k + 1) (by simp [hsz]) (by rw [hset, live_len_set hjl]; lia)
    refine ⟨owner', ?_, h2, h3.trans ?_⟩
    · rw [List.foldl_cons]
      have e2 : (do
          let (owner, k) ← some (owner, k)
          let j ← SetTable.layClean.free mask owner (SetTable.turns mask) (SetTable.bits h % (mask + 1)) (SetTable.bits h)
          pure (owner.setIfInBounds j (some k), k + 1)) = some (owner.setIfInBounds j (some k), k + 1) := by
        show (SetTable.layClean.free mask owner (SetTable.turns mask) (SetTable.bits h % (mask + 1)) (SetTable.bits h) >>= _) = _
        rw [hj]; rfl
      rw [e2, h1, List.length_cons]
      congr 2
      lia
    · rw [hset, List.length_cons, List.range_succ_eq_map, List.map_cons, List.map_map]
      refine ((live_set hjl).append_left _).trans (List.perm_middle.trans ?_)
      rw [Nat.add_zero]
      refine List.Perm.cons _ (List.Perm.append_right _ ?_)
      refine List.Perm.of_eq (List.map_congr_left fun x _ => ?_)
      show k + 1 + x = k + (x + 1)
      lia

structure TG (t : SetTable) (n : Nat) : Prop where
  mask : goodMask t.mask
  size : t.place.size = n
  dum : t.dummies = #[]
  rising : Rising t.place.toList
  le : ∀ p ∈ t.place.toList, p ≤ t.mask
  plain : t.plain = true
  load : n * 5 < t.mask * 3
theorem TG.fits {t : SetTable} {n : Nat} (G : TG t n) : t.fits n = true := by
  unfold SetTable.fits SetTable.fill
  rw [G.dum, G.size]
  have := G.load
  simp
  lia
theorem TG.fill {t : SetTable} {n : Nat} (G : TG t n) : t.fill = n := by
  unfold SetTable.fill
  rw [G.dum, G.size]; rfl
theorem TG.fresh (led : Bool) : TG (SetTable.fresh 0 0 led) 0 := ⟨.inl rfl, rfl, rfl, .nil, fun p h => by simp [SetTable.fresh] at h, rfl, (by show 0 * 5 < 7 * 3; decide)⟩

theorem laid_some {mask finger moves : Nat} {led : Bool} {hashes : Array Int} (hm : goodMask mask) (hl : hashes.size * 5 < mask * 3) :
    ∃ t order, SetTable.laid mask finger moves led true hashes = some (t, order) ∧ TG t hashes.size ∧ t.led = led ∧ t.mask = mask ∧ order.toList.Perm (List.range hashes.size) := by
  have hl' : (live (Array.replicate (mask + 1) (none : Option Nat)).toList) = [] := by simp [live]
  obtain ⟨owner, h1, h2, h3⟩ := lay_fold hm hashes.toList (Array.replicate (mask + 1) none) 0 (by simp) (by rw [hl']; simp; lia)
  rw [hl', List.append_nil] at h3
  have hlay : SetTable.layClean mask hashes = some owner := by
    unfold SetTable.layClean
    rw [← Array.foldl_toList, h1]; rfl
  have horder : ((List.range (mask + 1)).filterMap fun j => (owner.getD j none).map (j, ·)).map (·.2) = live owner.toList := by
    rw [List.map_filterMap]
    have e : (List.range (mask + 1)).filterMap (fun j => owner.getD j none) = live owner.toList := by
      have e1 : owner.toList = (List.range (mask + 1)).map fun j => owner.getD j none := by
        apply List.ext_getElem
        · simp [h2]
        · intro i a b
          simp [h2] at a b
          rw [List.getElem_map, List.getElem_range, Array.getD_eq_getD_getElem?, Array.getElem?_eq_getElem (by lia)]
          simp
      unfold live
      rw [e1, List.filterMap_map]; rfl
    rw [← e]
    congr 1
    funext j
    cases owner.getD j none <;> rfl
  have hplace : ((List.range (mask + 1)).filterMap fun j => (owner.getD j none).map (j, ·)).map (·.1) = (List.range (mask + 1)).filter fun j => (owner.getD j none).isSome := by
    generalize List.range (mask + 1) = R
    induction R with
    | nil => rfl
    | cons x R ih =>
      rw [List.filterMap_cons, List.filter_cons]
      cases owner.getD x none with
      | none => exact ih
      | some y =>
        simp only [Option.map_some, Option.isSome_some, if_true, List.map_cons]
        rw [ih]
  have hlen : (((List.range (mask + 1)).filterMap fun j => (owner.getD j none).map (j, ·)).map (·.1)).length = hashes.size := by
    have := congrArg List.length horder
    rw [List.length_map] at this ⊢
    rw [this, h3.length_eq]; simp
  have hlaid : SetTable.laid mask finger moves led true hashes = some ({ mask, place := (((List.range (mask + 1)).filterMap fun j => (owner.getD j none).map (j, ·)).map (·.1)).toArray, dummies := #[], finger, led, moves, plain := true }, (((List.range (mask + 1)).filterMap fun j => (owner.getD j none).map (j, ·)).map (·.2)).toArray) := by
    unfold SetTable.laid
    rw [hlay]; rfl
  refine ⟨_, _, hlaid, ⟨hm, by rw [List.size_toArray]; exact hlen, rfl, ?_, ?_, rfl, hl⟩, rfl, rfl, ?_⟩
  · show Rising (((List.range (mask + 1)).filterMap fun j => (owner.getD j none).map (j, ·)).map (·.1))
    rw [hplace]
    exact List.pairwise_lt_range.sublist List.filter_sublist
  · intro p hp
    have hp : p ∈ ((List.range (mask + 1)).filterMap fun j => (owner.getD j none).map (j, ·)).map (·.1) := hp
    rw [hplace] at hp
    have := List.mem_range.mp (List.mem_filter.mp hp).1
    show p ≤ mask
    lia
  · show (((List.range (mask + 1)).filterMap fun j => (owner.getD j none).map (j, ·)).map (·.2)).Perm _
    rw [horder]
    refine h3.trans (List.Perm.of_eq ?_)
    simp

/-! a new element's slot -/
theorem slot_empty {t : SetTable} {n j : Nat} (G : TG t n) : t.slot j = .empty ↔ j ∉ t.place.toList := by
  unfold SetTable.slot
  dsimp only
  have hd : SetTable.has t.dummies j = false := by rw [G.dum]; rfl
  by_cases h : j ∈ t.place.toList
  · rw [if_pos (by simpa using (below_at G.rising).mpr h)]
    simp [h]
  · rw [if_neg (by simpa using fun q => h ((below_at G.rising).mp q)), hd]
    simp [h]
theorem slot_not_dummy {t : SetTable} {n j : Nat} (G : TG t n) : t.slot j ≠ .dummy := by
  unfold SetTable.slot
  dsimp only
  have hd : SetTable.has t.dummies j = false := by rw [G.dum]; rfl
  rw [hd]
  split
  · simp
  · simp
theorem runEnd_le {mask i : Nat} (h : i ≤ mask) : i ≤ SetTable.runEnd mask i ∧ SetTable.runEnd mask i ≤ mask ∧ SetTable.runEnd mask i - i ≤ 9 := by
  unfold SetTable.runEnd; split <;> lia
noncomputable def startAt (mask i p : Nat) : SetTable.Probe := { j := i, more := SetTable.runEnd mask i - i, i, perturb := p, dummy := none }
theorem probe_run {t : SetTable} {n : Nat} {h : Int} (G : TG t n) : ∀ (more fuel j i p : Nat), j + more ≤ t.mask →
    (∃ j', SetTable.probe.go t (fun _ => h + 1) h (more + 1 + fuel) ⟨j, more, i, p, none⟩ = some (.empty j' none) ∧ j' ≤ t.mask ∧ t.slot j' = .empty) ∨
    SetTable.probe.go t (fun _ => h + 1) h (more + 1 + fuel) ⟨j, more, i, p, none⟩ = SetTable.probe.go t (fun _ => h + 1) h fuel (startAt t.mask (SetTable.leap t.mask i p).1 (SetTable.leap t.mask i p).2) := by
  intro more
  induction more with
  | zero =>
    intro fuel j i p hj
    rw [show 0 + 1 + fuel = (0 + fuel) + 1 by lia]
    cases q : t.slot j with
    | empty =>
      left
      refine ⟨j, ?_, by lia, q⟩
      unfold SetTable.probe.go
      dsimp only
      rw [q]
    | dummy => exact (slot_not_dummy G q).elim
    | live k =>
      have e : SetTable.probe.go t (fun _ => h + 1) h (0 + fuel + 1) ⟨j, 0, i, p, none⟩ = SetTable.probe.go t (fun _ => h + 1) h (0 + fuel) (t.advance ⟨j, 0, i, p, none⟩) := by
        conv => lhs; unfold SetTable.probe.go
        dsimp only
        rw [q]
        dsimp only
        rw [if_neg (by simp; lia)]
      rw [e]
      right
      rw [Nat.zero_add]
      rfl
  | succ more ih =>
    intro fuel j i p hj
    rw [show more + 1 + 1 + fuel = (more + 1 + fuel) + 1 by lia]
    cases q : t.slot j with
    | empty =>
      left
      refine ⟨j, ?_, by lia, q⟩
      unfold SetTable.probe.go
      dsimp only
      rw [q]
    | dummy => exact (slot_not_dummy G q).elim
    | live k =>
      have e : SetTable.probe.go t (fun _ => h + 1) h (more + 1 + fuel + 1) ⟨j, more + 1, i, p, none⟩ = SetTable.probe.go t (fun _ => h + 1) h (more + 1 + fuel) (t.advance ⟨j, more + 1, i, p, none⟩) := by
        conv => lhs; unfold SetTable.probe.go
        dsimp only
        rw [q]
        dsimp only
        rw [if_neg (by simp; lia)]
      rw [e]
      have e2 : t.advance ⟨j, more + 1, i, p, none⟩ = ⟨j + 1, more, i, p, none⟩ := by
        unfold SetTable.advance
        dsimp only
        rw [if_pos (by lia)]; rfl
      rw [e2]
      exact ih fuel (j + 1) i p (by lia)
theorem probe_some {t : SetTable} {n : Nat} {h : Int} (G : TG t n) : ∀ (k fuel i p : Nat), i ≤ t.mask → t.slot (it t.mask k (i, p)).1 = .empty → 10 * k + 1 ≤ fuel →
    ∃ j', SetTable.probe.go t (fun _ => h + 1) h fuel (startAt t.mask i p) = some (.empty j' none) ∧ j' ≤ t.mask ∧ t.slot j' = .empty
  | 0, fuel, i, p, hi, hk, hf => by
    obtain ⟨fuel, rfl⟩ : ∃ f, fuel = f + 1 := ⟨fuel - 1, by lia⟩
    refine ⟨i, ?_, hi, hk⟩
    unfold SetTable.probe.go startAt
    dsimp only
    have hk : t.slot i = .empty := hk
    rw [hk]
  | k + 1, fuel, i, p, hi, hk, hf => by
    obtain ⟨r1, r2, r3⟩ := runEnd_le hi
    obtain ⟨f, rfl⟩ : ∃ f, fuel = (SetTable.runEnd t.mask i - i) + 1 + f := ⟨fuel - ((SetTable.runEnd t.mask i - i) + 1), by lia⟩
    rcases probe_run (h := h) G (SetTable.runEnd t.mask i - i) f i i p (by lia) with a | a
    · exact a
    · show ∃ j', SetTable.probe.go t (fun _ => h + 1) h _ ⟨i, SetTable.runEnd t.mask i - i, i, p, none⟩ = _ ∧ _
      rw [a]
      exact probe_some G k f _ _ (by show (i * 5 + 1 + p / 32) % (t.mask + 1) ≤ t.mask; have := Nat.mod_lt (i * 5 + 1 + p / 32) (show 0 < t.mask + 1 by lia); lia) hk (by lia)
theorem exists_empty {t : SetTable} {n : Nat} (G : TG t n) : ∃ j ≤ t.mask, t.slot j = .empty := by
  apply Classical.byContradiction
  intro h
  have all : ∀ j ∈ List.range (t.mask + 1), j ∈ t.place.toList := by
    intro j hj
    have := List.mem_range.mp hj
    apply Classical.byContradiction
    intro q
    exact h ⟨j, by lia, (slot_empty G).mpr q⟩
  have := sub_len (List.nodup_range) all
  rw [List.length_range, Array.length_toList, G.size] at this
  have := G.load
  lia
theorem freeSlot_some {t : SetTable} {n : Nat} (G : TG t n) (h : Int) : ∃ j, t.freeSlot h = some (j, false) ∧ j ≤ t.mask ∧ j ∉ t.place.toList := by
  obtain ⟨j0, hj0, e0⟩ := exists_empty G
  have hi : SetTable.bits h % (t.mask + 1) ≤ t.mask := by have := Nat.mod_lt (SetTable.bits h) (show 0 < t.mask + 1 by lia); lia
  obtain ⟨k, hk, e⟩ := cover (p := SetTable.bits h) G.mask hi (bits_lt h) hj0
  obtain ⟨j, h1, h2, h3⟩ := probe_some (h := h) G k (10 * SetTable.turns t.mask) _ _ hi (by rw [e]; exact e0) (by unfold SetTable.turns; lia)
  refine ⟨j, ?_, h2, (slot_empty G).mp h3⟩
  unfold SetTable.freeSlot SetTable.probe
  have : t.probeStart h = startAt t.mask (SetTable.bits h % (t.mask + 1)) (SetTable.bits h) := rfl
  rw [this, h1]; rfl
end Mine

/-! M2 -/
namespace Mine
open PySem PySem.W PyProof.Rows

noncomputable def A2 {α β : Type} (R : α → β → Prop) : List α → List β → Prop
  | [], [] => True
  | a :: as, b :: bs => R a b ∧ A2 R as bs
  | _, _ => False

noncomputable def AR (v : Value) : At → Prop
  | .none => v = .none
  | .bool b => v = .bool b
  | .int i => ∃ t, v = .int i t
  | .str s => ∃ t, v = .str s t

noncomputable def DR (h : Heap) (v : Value) : D → Prop
  | .a x => AR v x
  | .t xs => ∃ a vs n, v = .ref a ∧ IsT h a (List.toArray vs) n ∧ A2 AR vs xs

noncomputable def VR (h : Heap) (ρ : List Addr) (v : Value) : V → Prop
  | .undef => True
  | .d x => DR h v x
  | .ty n => v = .type n
  | .range a b c => ∃ r t u w, v = .ref r ∧ IsRange h r a b c t u w
  | .ref i => ∃ a, ρ[i]? = some a ∧ v = .ref a

theorem A2.uncons {α β : Type} {R : α → β → Prop} {as : List α} {b : β} {bs : List β} (h : A2 R as (b :: bs)) : ∃ a as', as = a :: as' ∧ R a b ∧ A2 R as' bs := by
  cases as with
  | nil => exact h.elim
  | cons a as => exact ⟨a, as, rfl, h⟩
theorem A2.unnil {α β : Type} {R : α → β → Prop} {as : List α} (h : A2 R as []) : as = [] := by
  cases as with
  | nil => rfl
  | cons a as => exact h.elim
theorem A2.one {α β : Type} {R : α → β → Prop} {as : List α} {b : β} (h : A2 R as [b]) : ∃ a, as = [a] ∧ R a b := by
  obtain ⟨a, as', rfl, r, h⟩ := h.uncons
  exact ⟨a, by rw [h.unnil], r⟩
theorem A2.length {α β : Type} {R : α → β → Prop} : ∀ {as : List α} {bs : List β}, A2 R as bs → as.length = bs.length
  | [], [], _ => rfl
  | _ :: _, _ :: _, h => congrArg (· + 1) (A2.length h.2)
theorem A2.get {α β : Type} {R : α → β → Prop} : ∀ {as : List α} {bs : List β}, A2 R as bs → ∀ {k : Nat} {b : β}, bs[k]? = some b → ∃ a, as[k]? = some a ∧ R a b
  | [], [], _, k, b, e => by simp at e
  | a :: as, c :: bs, h, 0, b, e => by
    simp only [List.getElem?_cons_zero, Option.some.injEq] at e
    exact ⟨a, rfl, e ▸ h.1⟩
  | a :: as, c :: bs, h, k + 1, b, e => by
    simp only [List.getElem?_cons_succ] at e ⊢
    exact A2.get h.2 e
theorem A2.mono {α β : Type} {R R' : α → β → Prop} (hR : ∀ a b, R a b → R' a b) : ∀ {as : List α} {bs : List β}, A2 R as bs → A2 R' as bs
  | [], [], _ => trivial
  | _ :: _, _ :: _, h => ⟨hR _ _ h.1, A2.mono hR h.2⟩
theorem A2.append {α β : Type} {R : α → β → Prop} : ∀ {as : List α} {bs : List β} {cs : List α} {ds : List β}, A2 R as bs → A2 R cs ds → A2 R (as ++ cs) (bs ++ ds)
  | [], [], _, _, _, k => k
  | _ :: _, _ :: _, _, _, h, k => ⟨h.1, A2.append h.2 k⟩
theorem A2.set {α β : Type} {R : α → β → Prop} {a : α} {b : β} (r : R a b) : ∀ {as : List α} {bs : List β}, A2 R as bs → ∀ k, A2 R (as.set k a) (bs.set k b)
  | [], [], _, _ => trivial
  | _ :: _, _ :: _, h, 0 => ⟨r, h.2⟩
  | _ :: _, _ :: _, h, k + 1 => ⟨h.1, A2.set r h.2 k⟩
theorem A2.erase {α β : Type} {R : α → β → Prop} : ∀ {as : List α} {bs : List β}, A2 R as bs → ∀ k, A2 R (as.eraseIdx k) (bs.eraseIdx k)
  | [], [], _, _ => trivial
  | _ :: _, _ :: _, h, 0 => h.2
  | _ :: _, _ :: _, h, k + 1 => ⟨h.1, A2.erase h.2 k⟩
theorem A2.take {α β : Type} {R : α → β → Prop} : ∀ {as : List α} {bs : List β}, A2 R as bs → ∀ k, A2 R (as.take k) (bs.take k)
  | [], [], _, k => by simp [A2]
  | _ :: _, _ :: _, _, 0 => trivial
  | _ :: _, _ :: _, h, k + 1 => ⟨h.1, A2.take h.2 k⟩
theorem A2.drop {α β : Type} {R : α → β → Prop} : ∀ {as : List α} {bs : List β}, A2 R as bs → ∀ k, A2 R (as.drop k) (bs.drop k)
  | [], [], _, k => by simp [A2]
  | _ :: _, _ :: _, h, 0 => h
  | _ :: _, _ :: _, h, k + 1 => A2.drop h.2 k
theorem A2.repl {α β : Type} {R : α → β → Prop} {a : α} {b : β} (r : R a b) : ∀ k, A2 R (List.replicate k a) (List.replicate k b)
  | 0 => trivial
  | k + 1 => ⟨r, A2.repl r k⟩

theorem A2.length_toArray {α β : Type} {R : α → β → Prop} {as : List α} {bs : List β} (h : A2 R as bs) : as.toArray.size = bs.length := by
  rw [List.size_toArray]; exact A2.length h
theorem A2.getA {α β : Type} {R : α → β → Prop} {as : List α} {bs : List β} (h : A2 R as bs) {k : Nat} {b : β} (e : bs[k]? = some b) : ∃ a, as.toArray[k]? = some a ∧ R a b := by
  obtain ⟨a, ha, hr⟩ := A2.get h e
  exact ⟨a, by rw [List.getElem?_toArray]; exact ha, hr⟩

noncomputable def SetE (e : Int × Value) (k : Int) : Prop := ∃ tk, e = (hashInt k, .int k tk)

inductive SetO (w : World) (c : Obj) (ns : List Int) : Prop
  | of (es : Array (Int × Value)) (ep : Nat) (t : SetTable) (ms : List Int) (e0 : c = { cls := .type "set", dict := none, data := .set es ep t, slots := #[] }) (e1 : A2 SetE (Array.toList es) ms) (e2 : List.Perm ms ns) (e3 : ns.Nodup) (e4 : t.fits es.size = true) (e5 : TG t es.size) (e6 : (w.params.followText "set-order" = true ∨ t.led = true)) : SetO w c ns

noncomputable def OR (w : World) (h : Heap) (c : Obj) : O → Prop
  | .list xs => ∃ vs n, c = listOf (List.toArray vs) n ∧ A2 (DR h) vs xs
  | .set ns => SetO w c ns

/-- an object that never turns -/
noncomputable def Imm (o : Obj) : Prop := (o.cls = .type "tuple" ∧ ∃ its n, o.data = .seq its n) ∨ (o.cls = .type "range" ∧ ∃ vs, o.data = .fields vs)

noncomputable def tracked : Obj → Prop := fun c => (c.cls = .type "list" ∨ c.cls = .type "set") ∧ ∀ ns ep, c.data ≠ .dict ns ep

theorem OR.tracked {w : World} {h : Heap} {c : Obj} {o : O} (x : OR w h c o) : tracked c := by
  cases o with
  | list xs => obtain ⟨vs, n, rfl, _⟩ := x; exact ⟨.inl rfl, fun _ _ => by simp⟩
  | set ns => obtain ⟨es, ep, t, ms, rfl, _⟩ := x; exact ⟨.inr rfl, fun _ _ => by simp⟩

structure HR (w : World) (base : Heap) (ρ : List Addr) (H : Hp) (h : Heap) : Prop where
  len : ρ.length = H.length
  nd : ρ.Nodup
  obj : ∀ (i : Nat) (o : O), H[i]? = some o → ∃ a c, ρ[i]? = some a ∧ h.get? a = some c ∧ OR w h c o
  off : ∀ a ∈ ρ, base.get? a = none
  keep : ∀ b o, base.get? b = some o → h.get? b = some o

structure Ext (ρ : List Addr) (h : Heap) (ρ' : List Addr) (h' : Heap) : Prop where
  pre : ∃ r, ρ' = ρ ++ r
  new : ∀ a ∈ ρ', a ∈ ρ ∨ h.get? a = none
  keep : ∀ b o, h.get? b = some o → b ∉ ρ → h'.get? b = some o

/-- the same but for the frame's own object -/
structure ExtL (L : Addr) (ρ : List Addr) (h : Heap) (ρ' : List Addr) (h' : Heap) : Prop where
  pre : ∃ r, ρ' = ρ ++ r
  new : ∀ a ∈ ρ', a ∈ ρ ∨ h.get? a = none
  keep : ∀ b o, h.get? b = some o → b ∉ ρ → b ≠ L → h'.get? b = some o

theorem Ext.refl (ρ : List Addr) (h : Heap) : Ext ρ h ρ h := ⟨⟨[], by simp⟩, fun _ h => .inl h, fun _ _ h _ => h⟩
theorem ExtL.refl (L : Addr) (ρ : List Addr) (h : Heap) : ExtL L ρ h ρ h := ⟨⟨[], by simp⟩, fun _ h => .inl h, fun _ _ h _ _ => h⟩
theorem Ext.toL {L : Addr} {ρ ρ' : List Addr} {h h' : Heap} (x : Ext ρ h ρ' h') : ExtL L ρ h ρ' h' := ⟨x.pre, x.new, fun b o e n _ => x.keep b o e n⟩
theorem Ext.trans {ρ ρ' ρ'' : List Addr} {h h' h'' : Heap} (x : Ext ρ h ρ' h') (y : Ext ρ' h' ρ'' h'') : Ext ρ h ρ'' h'' := by
  obtain ⟨⟨r, rfl⟩, n1, k1⟩ := x
  obtain ⟨⟨r', rfl⟩, n2, k2⟩ := y
  have nin : ∀ b o, h.get? b = some o → b ∉ ρ → b ∉ ρ ++ r := fun b o e n m => (n1 b m).elim n fun q => by rw [q] at e; cases e
  refine ⟨⟨r ++ r', by simp⟩, fun a ha => ?_, fun b o e n => k2 b o (k1 b o e n) (nin b o e n)⟩
  rcases n2 a ha with ha | ha
  · exact n1 a ha
  · cases q : h.get? a with
    | none => exact .inr rfl
    | some o =>
      refine .inl (Classical.byContradiction fun n => ?_)
      rw [k1 a o q n] at ha; cases ha
theorem ExtL.trans {L : Addr} {ρ ρ' ρ'' : List Addr} {h h' h'' : Heap} (hL : L ∉ ρ') (x : ExtL L ρ h ρ' h') (y : ExtL L ρ' h' ρ'' h'') (hL'' : L ∉ ρ'') : ExtL L ρ h ρ'' h'' := by
  obtain ⟨⟨r, rfl⟩, n1, k1⟩ := x
  obtain ⟨⟨r', rfl⟩, n2, k2⟩ := y
  have nin : ∀ b o, h.get? b = some o → b ∉ ρ → b ∉ ρ ++ r := fun b o e n m => (n1 b m).elim n fun q => by rw [q] at e; cases e
  refine ⟨⟨r ++ r', by simp⟩, fun a ha => ?_, fun b o e n l => k2 b o (k1 b o e n l) (nin b o e n) l⟩
  rcases n2 a ha with hb | hb
  · exact n1 a hb
  · cases q : h.get? a with
    | none => exact .inr rfl
    | some o =>
      refine .inl (Classical.byContradiction fun n => ?_)
      have : a ≠ L := fun e => hL'' (e ▸ ha)
      rw [k1 a o q n this] at hb; cases hb

section
variable {w : World} {base : Heap} {ρ ρ' : List Addr} {H H' : Hp} {h h' : Heap}

theorem HR.untracked (x : HR w base ρ H h) {a : Addr} {c : Obj} (e : h.get? a = some c) (n : ¬ tracked c) : a ∉ ρ := by
  intro m
  obtain ⟨i, hi, he⟩ := List.mem_iff_getElem.mp m
  have hH : i < H.length := x.len ▸ hi
  obtain ⟨b, d, h1, h2, h3⟩ := x.obj i H[i] (List.getElem?_eq_getElem hH)
  rw [List.getElem?_eq_getElem hi, he] at h1
  cases h1
  rw [e] at h2; cases h2
  exact n h3.tracked
theorem not_tracked_tuple {its : Array Value} {n : Nat} : ¬ tracked { cls := .type "tuple", dict := none, data := .seq its n, slots := #[] } := by
  rintro ⟨h | h, _⟩ <;> simp at h

theorem DR.keep (x : HR w base ρ H h) (k : ∀ b o, h.get? b = some o → b ∉ ρ → Imm o → h'.get? b = some o) {v : Value} {d : D} (r : DR h v d) : DR h' v d := by
  cases d with
  | a y => exact r
  | t ys =>
    obtain ⟨a, vs, n, rfl, ht, hA⟩ := r
    exact ⟨a, vs, n, rfl, k _ _ ht (x.untracked ht not_tracked_tuple) (.inl ⟨rfl, _, _, rfl⟩), hA⟩
theorem VR.keep (x : HR w base ρ H h) (p : ∃ r, ρ' = ρ ++ r) (k : ∀ b o, h.get? b = some o → b ∉ ρ → Imm o → h'.get? b = some o) {v : Value} {d : V} (r : VR h ρ v d) : VR h' ρ' v d := by
  cases d with
  | undef => trivial
  | d y => exact DR.keep x k r
  | ty n => exact r
  | range a b c =>
    obtain ⟨q, t, u, z, rfl, hr⟩ := r
    exact ⟨q, t, u, z, rfl, k _ _ hr (x.untracked hr (by rintro ⟨h | h, _⟩ <;> simp at h)) (.inr ⟨rfl, _, rfl⟩)⟩
  | ref i =>
    obtain ⟨a, ha, rfl⟩ := r
    obtain ⟨r', rfl⟩ := p
    exact ⟨a, by rw [List.getElem?_append_left (List.getElem?_eq_some_iff.mp ha).1]; exact ha, rfl⟩
theorem VR.ext (x : HR w base ρ H h) (e : Ext ρ h ρ' h') {v : Value} {d : V} (r : VR h ρ v d) : VR h' ρ' v d := r.keep x e.pre fun b o q n _ => e.keep b o q n
theorem A2.keep (x : HR w base ρ H h) (p : ∃ r, ρ' = ρ ++ r) (k : ∀ b o, h.get? b = some o → b ∉ ρ → Imm o → h'.get? b = some o) {vs : List Value} {ds : List V} (r : A2 (VR h ρ) vs ds) : A2 (VR h' ρ') vs ds :=
  A2.mono (fun _ _ => VR.keep x p k) r
theorem A2.ext (x : HR w base ρ H h) (e : Ext ρ h ρ' h') {vs : List Value} {ds : List V} (r : A2 (VR h ρ) vs ds) : A2 (VR h' ρ') vs ds := A2.mono (fun _ _ => VR.ext x e) r

theorem HR.lsAt (x : HR w base ρ H h) {i : Nat} {xs : List D} (e : lsAt H i = some xs) {a : Addr} (ha : ρ[i]? = some a) : ∃ vs n, IsL h a (List.toArray vs) n ∧ A2 (DR h) vs xs := by
  unfold Mine.lsAt at e
  split at e
  · rename_i xs' q
    cases e
    obtain ⟨b, c, h1, h2, vs, n, rfl, hA⟩ := x.obj i _ q
    rw [ha] at h1; cases h1
    exact ⟨vs, n, h2, hA⟩
  · cases e
theorem HR.stAt (x : HR w base ρ H h) {i : Nat} {xs : List Int} (e : stAt H i = some xs) {a : Addr} (ha : ρ[i]? = some a) : ∃ c, h.get? a = some c ∧ SetO w c xs := by
  unfold Mine.stAt at e
  split at e
  · rename_i xs' q
    cases e
    obtain ⟨b, c, h1, h2, hS⟩ := x.obj i _ q
    rw [ha] at h1; cases h1
    exact ⟨c, h2, hS⟩
  · cases e

theorem OR.keep {c : Obj} {o : O} (x : HR w base ρ H h) (k : ∀ b o, h.get? b = some o → b ∉ ρ → Imm o → h'.get? b = some o) (r : OR w h c o) : OR w h' c o := by
  cases o with
  | list xs => obtain ⟨vs, n, rfl, hA⟩ := r; exact ⟨vs, n, rfl, A2.mono (fun _ _ => DR.keep x k) hA⟩
  | set ns => exact r

/-- an object that is not tracked is laid behind -/
theorem HR.push (x : HR w base ρ H h) (c : Obj) : HR w base ρ H (h.push c) where
  len := x.len
  nd := x.nd
  obj := fun i o e => by
    obtain ⟨a, d, h1, h2, h3⟩ := x.obj i o e
    exact ⟨a, d, h1, Heap.get?_push_of_some _ h2, h3.keep x fun b o q _ _ => Heap.get?_push_of_some _ q⟩
  off := x.off
  keep := fun b o e => Heap.get?_push_of_some _ (x.keep b o e)
theorem Ext.push (ρ : List Addr) (h : Heap) (c : Obj) : Ext ρ h ρ (h.push c) := ⟨⟨[], by simp⟩, fun _ h => .inl h, fun _ _ e _ => Heap.get?_push_of_some _ e⟩

theorem HR.lt (x : HR w base ρ H h) {a : Addr} (m : a ∈ ρ) : a < h.objs.size := by
  obtain ⟨i, hi, he⟩ := List.mem_iff_getElem.mp m
  have hH : i < H.length := x.len ▸ hi
  obtain ⟨b, d, h1, h2, h3⟩ := x.obj i H[i] (List.getElem?_eq_getElem hH)
  rw [List.getElem?_eq_getElem hi, he] at h1
  cases h1
  exact Heap.lt_size h2
theorem get_size (h : Heap) : h.get? h.objs.size = none := by
  cases q : h.get? h.objs.size with
  | none => rfl
  | some o => exact absurd (Heap.lt_size q) (Nat.lt_irrefl _)

/-- a tracked object is laid behind -/
theorem HR.alloc (x : HR w base ρ H h) {c : Obj} {o : O} (hc : c.isFreed = false) (ho : OR w h c o) : HR w base (ρ ++ [h.objs.size]) (H ++ [o]) (h.push c) where
  len := by simp [x.len]
  nd := by
    refine List.nodup_append.mpr ⟨x.nd, by simp, fun a ha b hb => ?_⟩
    rw [List.mem_singleton.mp hb]
    exact Nat.ne_of_lt (x.lt ha)
  obj := fun i p e => by
    by_cases hi : i < H.length
    · rw [List.getElem?_append_left hi] at e
      obtain ⟨a, d, h1, h2, h3⟩ := x.obj i p e
      exact ⟨a, d, by rw [List.getElem?_append_left (x.len ▸ hi)]; exact h1, Heap.get?_push_of_some _ h2, h3.keep x fun b o q _ _ => Heap.get?_push_of_some _ q⟩
    · have hi' : H.length ≤ i := Nat.le_of_not_lt hi
      rw [List.getElem?_append_right hi'] at e
      have h0 : i - H.length = 0 := by
        have := (List.getElem?_eq_some_iff.mp e).1
        simp at this; exact this
      rw [h0] at e
      simp at e
      subst e
      refine ⟨h.objs.size, c, ?_, Heap.get?_push_size _ hc, ho.keep x fun b o q _ _ => Heap.get?_push_of_some _ q⟩
      rw [List.getElem?_append_right (x.len ▸ hi'), x.len, h0]; rfl
  off := fun a ha => by
    rcases List.mem_append.mp ha with ha | ha
    · exact x.off a ha
    · rw [List.mem_singleton.mp ha]
      cases q : base.get? h.objs.size with
      | none => rfl
      | some o => have := x.keep _ _ q; rw [get_size] at this; cases this
  keep := fun b o e => Heap.get?_push_of_some _ (x.keep b o e)
theorem Ext.alloc (ρ : List Addr) (h : Heap) (c : Obj) : Ext ρ h (ρ ++ [h.objs.size]) (h.push c) :=
  ⟨⟨_, rfl⟩, fun a ha => (List.mem_append.mp ha).imp id fun m => by rw [List.mem_singleton.mp m]; exact get_size h, fun _ _ e _ => Heap.get?_push_of_some _ e⟩

theorem HR.grow (x : HR w base ρ H h) (k : ∀ b o, h.get? b = some o → h'.get? b = some o) : HR w base ρ H h' where
  len := x.len
  nd := x.nd
  obj := fun i o e => by
    obtain ⟨a, d, h1, h2, h3⟩ := x.obj i o e
    exact ⟨a, d, h1, k _ _ h2, h3.keep x fun b o q _ _ => k _ _ q⟩
  off := x.off
  keep := fun b o e => k _ _ (x.keep b o e)
theorem Ext.grow (ρ : List Addr) (k : ∀ b o, h.get? b = some o → h'.get? b = some o) : Ext ρ h ρ h' := ⟨⟨[], by simp⟩, fun _ h => .inl h, fun _ _ e _ => k _ _ e⟩
theorem HR.alloc3 (x : HR w base ρ H h) (k : ∀ b o, h.get? b = some o → h'.get? b = some o) {c : Obj} {o : O} {a : Addr} (ha : h.get? a = none) (hc : h'.get? a = some c) (ho : OR w h c o) : HR w base (ρ ++ [a]) (H ++ [o]) h' where
  len := by simp [x.len]
  nd := by
    refine List.nodup_append.mpr ⟨x.nd, by simp, fun q hq b hb => ?_⟩
    rw [List.mem_singleton.mp hb]
    rintro rfl
    obtain ⟨i, hi, he⟩ := List.mem_iff_getElem.mp hq
    have hH : i < H.length := x.len ▸ hi
    obtain ⟨b, d, h1, h2, h3⟩ := x.obj i H[i] (List.getElem?_eq_getElem hH)
    rw [List.getElem?_eq_getElem hi, he] at h1
    cases h1
    rw [ha] at h2; cases h2
  obj := fun i p e => by
    by_cases hi : i < H.length
    · rw [List.getElem?_append_left hi] at e
      obtain ⟨a, d, h1, h2, h3⟩ := x.obj i p e
      exact ⟨a, d, by rw [List.getElem?_append_left (x.len ▸ hi)]; exact h1, k _ _ h2, h3.keep x fun b o q _ _ => k _ _ q⟩
    · have hi' : H.length ≤ i := Nat.le_of_not_lt hi
      rw [List.getElem?_append_right hi'] at e
      have h0 : i - H.length = 0 := by
        have := (List.getElem?_eq_some_iff.mp e).1
        simp at this; exact this
      rw [h0] at e
      simp at e
      subst e
      refine ⟨a, c, ?_, hc, ho.keep x fun b o q _ _ => k _ _ q⟩
      rw [List.getElem?_append_right (x.len ▸ hi'), x.len, h0]; rfl
  off := fun b hb => by
    rcases List.mem_append.mp hb with hb | hb
    · exact x.off b hb
    · rw [List.mem_singleton.mp hb]
      cases q : base.get? a with
      | none => rfl
      | some o => have := x.keep _ _ q; rw [ha] at this; cases this
  keep := fun b o e => k _ _ (x.keep b o e)
theorem Ext.alloc3 (ρ : List Addr) {a : Addr} (ha : h.get? a = none) (k : ∀ b o, h.get? b = some o → h'.get? b = some o) : Ext ρ h (ρ ++ [a]) h' :=
  ⟨⟨_, rfl⟩, fun b hb => (List.mem_append.mp hb).imp id fun m => by rw [List.mem_singleton.mp m]; exact ha, fun _ _ e _ => k _ _ e⟩
theorem HR.alloc2 (x : HR w base ρ H h) (k : ∀ b o, h.get? b = some o → h'.get? b = some o) {c : Obj} {o : O} (hc : h'.get? h.objs.size = some c) (ho : OR w h c o) : HR w base (ρ ++ [h.objs.size]) (H ++ [o]) h' :=
  x.alloc3 k (get_size h) hc ho
theorem Ext.alloc2 (ρ : List Addr) (k : ∀ b o, h.get? b = some o → h'.get? b = some o) : Ext ρ h (ρ ++ [h.objs.size]) h' := Ext.alloc3 ρ (get_size h) k

/-- a tracked object turns -/
theorem HR.upd (x : HR w base ρ H h) {i : Nat} {a : Addr} {c : Obj} {o : O} (ha : ρ[i]? = some a) (hs : Heap.SameBut a h h') (hc : h'.get? a = some c) (ho : OR w h c o) : HR w base ρ (H.set i o) h' where
  len := by simp [x.len]
  nd := x.nd
  obj := fun j p e => by
    have hk : ∀ b o, h.get? b = some o → b ∉ ρ → Imm o → h'.get? b = some o := fun b o q n _ => (hs.2 b fun z => n (z ▸ List.mem_of_getElem? ha)).trans q
    by_cases hij : i = j
    · subst hij
      have hi : i < H.length := x.len ▸ (List.getElem?_eq_some_iff.mp ha).1
      rw [List.getElem?_set_self hi] at e
      cases e
      exact ⟨a, c, ha, hc, ho.keep x hk⟩
    · rw [List.getElem?_set_ne hij] at e
      obtain ⟨b, d, h1, h2, h3⟩ := x.obj j p e
      refine ⟨b, d, h1, (hs.2 b ?_).trans h2, h3.keep x hk⟩
      rintro rfl
      have hj := (List.getElem?_eq_some_iff.mp h1)
      have hi := (List.getElem?_eq_some_iff.mp ha)
      exact hij ((List.getElem_inj x.nd).mp (hi.2.trans hj.2.symm))
  off := x.off
  keep := fun b o e => (hs.2 b fun z => by
    have := x.off a (List.mem_of_getElem? ha)
    rw [← z, e] at this; cases this).trans (x.keep b o e)
theorem Ext.upd {i : Nat} {a : Addr} (ha : ρ[i]? = some a) (hs : Heap.SameBut a h h') : Ext ρ h ρ h' :=
  ⟨⟨[], by simp⟩, fun _ h => .inl h, fun b o e n => (hs.2 b fun z => n (z ▸ List.mem_of_getElem? ha)).trans e⟩

theorem HR.take (x : HR w base ρ H h) (n : Nat) : HR w base (ρ.take n) (H.take n) h where
  len := by simp [x.len]
  nd := x.nd.sublist (List.take_sublist ..)
  obj := fun i o e => by
    have hi : i < n := by
      have := (List.getElem?_eq_some_iff.mp e).1
      rw [List.length_take] at this; lia
    rw [List.getElem?_take_of_lt hi] at e
    obtain ⟨a, c, h1, h2, h3⟩ := x.obj i o e
    exact ⟨a, c, by rw [List.getElem?_take_of_lt hi]; exact h1, h2, h3⟩
  off := fun a ha => x.off a (List.mem_of_mem_take ha)
  keep := x.keep
theorem Ext.take (x : Ext ρ h ρ' h') {n : Nat} (hn : ρ.length ≤ n) : Ext ρ h (ρ'.take n) h' := by
  obtain ⟨⟨r, rfl⟩, n1, k⟩ := x
  exact ⟨⟨r.take (n - ρ.length), by rw [List.take_append, List.take_of_length_le hn]⟩, fun a ha => n1 a (List.mem_of_mem_take ha), k⟩
theorem ExtL.take {L : Addr} (x : ExtL L ρ h ρ' h') {n : Nat} (hn : ρ.length ≤ n) : ExtL L ρ h (ρ'.take n) h' := by
  obtain ⟨⟨r, rfl⟩, n1, k⟩ := x
  exact ⟨⟨r.take (n - ρ.length), by rw [List.take_append, List.take_of_length_le hn]⟩, fun a ha => n1 a (List.mem_of_mem_take ha), k⟩
theorem VR.take {v : Value} {d : V} {n : Nat} (r : VR h ρ v d) (b : d.below n) : VR h (ρ.take n) v d := by
  cases d with
  | ref i =>
    obtain ⟨a, ha, rfl⟩ := r
    exact ⟨a, by rw [List.getElem?_take_of_lt b]; exact ha, rfl⟩
  | _ => exact r
end
end Mine

/-! M3 -/
namespace Mine
open PySem PySem.W PyProof.Rows PySem.Calls

inductive Post (w : World) (base : Heap) (ρ : List Addr) (s : Shared) (Q : V → Hp → Prop) (c : Value) (s' : Shared) : Prop
  | mk (h' : Heap) (tk' : Nat) (ρ' : List Addr) (v : V) (H' : Hp) (e0 : s' = { s with heap := h', toks := tk' }) (e1 : Ext ρ s.heap ρ' h') (e2 : HR w base ρ' H' h') (e3 : VR h' ρ' c v) (e4 : Q v H') : Post w base ρ s Q c s'

section
variable {prog : Program} {w : World} {A : Around} {E : Value → Shared → Prop} {s : Shared} {base : Heap} {ρ : List Addr} {H : Hp} {Q : V → Hp → Prop}

theorem Post.same {v : V} {c : Value} (x : HR w base ρ H s.heap) (tk : Nat) (r : VR s.heap ρ c v) (q : Q v H) : Post w base ρ s Q c { s with toks := tk } :=
  ⟨s.heap, tk, ρ, v, H, rfl, Ext.refl .., x, r, q⟩
theorem Post.here {v : V} {c : Value} (x : HR w base ρ H s.heap) (r : VR s.heap ρ c v) (q : Q v H) : Post w base ρ s Q c s :=
  ⟨s.heap, s.toks, ρ, v, H, rfl, Ext.refl .., x, r, q⟩
theorem Post.int {i : Int} {t : Tok} (x : HR w base ρ H s.heap) (tk : Nat) (q : Q (.int i) H) : Post w base ρ s Q (.int i t) { s with toks := tk } :=
  Post.same (v := .int i) x tk ⟨t, rfl⟩ q
theorem Post.bool {b : Bool} (x : HR w base ρ H s.heap) (q : Q (.bool b) H) : Post w base ρ s Q (.bool b) s := Post.here (v := .bool b) x rfl q

theorem Post.list {vs : List Value} {ds : List D} {h₁ : Heap} (tk : Nat) (x : HR w base ρ H h₁) (e : Ext ρ s.heap ρ h₁) (r : A2 (DR h₁) vs ds) (q : Q (.ref H.length) (H ++ [.list ds])) :
    Post w base ρ s Q (.ref h₁.objs.size) { s with heap := h₁.push { cls := .type "list", data := .seq vs.toArray }, toks := tk } :=
  ⟨_, tk, _, .ref H.length, _, rfl, e.trans (Ext.alloc ..), x.alloc rfl (o := .list ds) ⟨vs, 0, rfl, r⟩, ⟨_, by rw [List.getElem?_append_right (by rw [x.len]; exact Nat.le_refl _), x.len]; simp, rfl⟩, q⟩
theorem Post.tup {vs : List Value} {as : List At} {h₁ : Heap} (tk : Nat) (x : HR w base ρ H h₁) (e : Ext ρ s.heap ρ h₁) (r : A2 AR vs as) (q : Q (.tup as) H) :
    Post w base ρ s Q (.ref h₁.objs.size) { s with heap := h₁.push { cls := .type "tuple", data := .seq vs.toArray }, toks := tk } :=
  ⟨_, tk, _, .tup as, _, rfl, e.trans (Ext.push ..), x.push _, ⟨_, vs, 0, rfl, IsT.new .., r⟩, q⟩

theorem A2.toL {α β : Type} {R : α → β → Prop} {as : Array α} {bs : List β} {cs : List α} (e : as = cs.toArray) (h : A2 R cs bs) : A2 R as.toList bs := by rw [e]; exact h

theorem bits_small {x : Int} (h : smallI x) : Builtin.Int.intBits x ≤ 2 ^ 20 := Nat.le_trans (intBits_le h) (by decide)

theorem foldl_app {α : Type} : ∀ (k : Nat) (x : α) (acc : Array α), List.foldl (fun x1 x2 => x1 ++ x2) acc (List.replicate k #[x]) = acc ++ (List.replicate k x).toArray
  | 0, x, acc => by simp
  | k + 1, x, acc => by rw [List.replicate_succ, List.foldl_cons, foldl_app k]; apply Array.toList_inj.mp; simp [List.replicate_succ]

theorem mul_one {l : Addr} {items : Array Value} {k : Nat} {x : Int} {u : Tok} {Q : Value → Shared → Prop}
    (hl : IsL s.heap l items k) (hlo : -(2 ^ 63 : Int) ≤ x) (hhi : x < 2 ^ 63) (hsz : items.size * x.toNat ≤ 2 ^ 24)
    (h : Q (.ref s.heap.objs.size) { s with heap := s.heap.push { cls := .type "list", data := .seq (List.foldl (fun x1 x2 => x1 ++ x2) #[] (List.replicate (if items.isEmpty = true then 0 else x.toNat) items)) } }) :
    wpAny (model prog w) A (binaryOp .Mult (.ref l) (.int x u)) Q E s :=
  wpAny_binaryOp_repeat_ref (T := "list") (U := "int") (by decide) ⟨_, hl, rfl⟩ (fun s' => typeIs_int s' x u) noFill_list_mul F.fills_int_mul F.slot_int_rmul repeat_list F.slot_int_index.lookup
    (call_meets F.slot_int_rmul (typeIs_int s x u) F.entry_int_rmul (F.args_int_rmul_2 _ _) (int___rmul___int_list x u l items k)
      ⟨hl, rfl, ⟨_, hl, rfl⟩, call_meets F.slot_list_mul ⟨_, hl, rfl⟩ F.entry_list_mul (F.args_list_mul_2 _ _)
        (AutoListH.list___mul___list_int_3 l items k x u (by simp [Builtin.List.listFitsIndex]; lia) (by lia) (by simp [Builtin.List.listTooLong, sizeLine]; lia))
        ⟨hl, h⟩⟩)

theorem snd_unop {op : UnaryOp} {v : V} {c : Value} {Q : V → Prop} (hb : unop op v Q) (x : HR w base ρ H s.heap) (r : VR s.heap ρ c v) :
    wpAny (model prog w) A (unaryOp op c) (Post w base ρ s fun v H' => H' = H ∧ Q v) E s := by
  unfold unop at hb
  split at hb
  · replace hb := onI_inv hb
    obtain ⟨i, rfl, hb⟩ := hb
    obtain ⟨t, rfl⟩ := r
    exact neg_int (Post.int x _ ⟨rfl, hb⟩)
  · exact hb.elim

theorem snd_binop {op : Operator} {a b : V} {ca cb : Value} (hb : binop op a b H Q) (x : HR w base ρ H s.heap) (ra : VR s.heap ρ ca a) (rb : VR s.heap ρ cb b) :
    wpAny (model prog w) A (binaryOp op ca cb) (Post w base ρ s Q) E s := by
  unfold binop at hb
  split at hb
  · rename_i i ea
    replace hb := onI_inv hb
    obtain ⟨j, rfl, hb⟩ := hb
    obtain rfl := asI_some ea
    obtain ⟨t, rfl⟩ := ra; obtain ⟨u, rfl⟩ := rb
    unfold binI at hb
    split at hb
    · exact add_int (Post.int x _ hb)
    · exact sub_int (Post.int x _ hb)
    · exact mul_int (Post.int x _ hb.2.2) (IntMulOk.of_bits (bits_small hb.1) (bits_small hb.2.1))
    · exact mod_int' hb.1 (Post.int x _ hb.2)
    · exact floordiv_int hb.1 (Post.int x _ hb.2.2) (.inl (PyProof.noPylong_small hb.2.1))
    · obtain ⟨h0, h1, h2, hq⟩ := hb
      refine pow_int h0 ?_ (Post.int x _ hq)
      have : Builtin.Int.intBits i ≤ 7 := intBits_le (Nat.lt_of_le_of_lt h2 (by decide))
      have h3 : (Builtin.Int.intBits i : Int) * j ≤ 7 * 100 := Int.mul_le_mul (by lia) h1 h0 (by decide)
      lia
    · exact lshift_int_small hb.1 (by have := hb.2.1; lia) hb.2.2.1 (Post.int x _ hb.2.2.2)
    · exact rshift_int hb.1 (Post.int x _ hb.2)
    · exact and_int (Post.int x _ hb)
    · exact or_int (Post.int x _ hb)
    · exact xor_int (Post.int x _ hb)
    · exact hb.elim
  · split at hb
    · rename_i xs ea
      replace hb := onT_inv hb
      obtain ⟨ys, rfl, hb⟩ := hb
      obtain rfl := asT_some ea
      split at hb
      · obtain ⟨l1, vs, n, rfl, h1, hv⟩ := ra; obtain ⟨l2, us, k, rfl, h2, hu⟩ := rb
        have hsz : vs.toArray.size + us.toArray.size ≤ sizeLine := by rw [A2.length_toArray hv, A2.length_toArray hu, sizeLine_eq]; have := hb.1; lia
        by_cases e1 : vs.toArray.isEmpty = true
        · refine concat_meets ⟨_, h1, rfl⟩ ⟨_, h2, rfl⟩ noFill_tuple_add seq_tuple_add F.slot_tuple_add F.entry_tuple_add (F.args_tuple_add_2 _ _) (AutoSeq1.tuple___add___tuple_tuple_0 l1 _ n l2 _ k e1) ⟨h1, h2, ?_⟩
          have e : vs = [] := by simpa using e1
          subst e
          cases xs with
          | nil => exact Post.here (v := .tup ys) x ⟨_, us, k, rfl, h2, hu⟩ hb.2
          | cons _ _ => exact hv.elim
        · by_cases e2 : us.toArray.isEmpty = true
          · refine concat_meets ⟨_, h1, rfl⟩ ⟨_, h2, rfl⟩ noFill_tuple_add seq_tuple_add F.slot_tuple_add F.entry_tuple_add (F.args_tuple_add_2 _ _) (AutoSeq1.tuple___add___tuple_tuple_1 l1 _ n l2 _ k e1 e2) ⟨h1, h2, ?_⟩
            have e : us = [] := by simpa using e2
            subst e
            cases ys with
            | nil =>
              have hq := hb.2
              rw [List.append_nil] at hq
              exact Post.here (v := .tup xs) x ⟨_, vs, n, rfl, h1, hv⟩ hq
            | cons _ _ => exact hu.elim
          · have e := Post.tup (Q := Q) (s := s) s.toks x (Ext.refl ..) (A2.append hv hu) hb.2
            refine P.add_tuple h1 h2 e1 e2 ?_ hsz
            rw [List.append_toArray]; exact e
      · exact hb.elim
    · replace hb := onR_inv hb
      obtain ⟨i, rfl, hb⟩ := hb
      split at hb
      · rename_i j eb
        obtain rfl := asR_some eb
        split at hb
        · obtain ⟨l1, h1, rfl⟩ := ra; obtain ⟨l2, h2, rfl⟩ := rb
          unfold addL at hb
          split at hb
          · rename_i xs ys e1 e2
            obtain ⟨vs, n, hl, hv⟩ := x.lsAt e1 h1
            obtain ⟨us, k, hm, hu⟩ := x.lsAt e2 h2
            have e := Post.list (Q := Q) (s := s) (s.toks) x (Ext.refl ..) (A2.append hv hu) hb.2
            refine P.add_list hl hm ?_ ?_
            · rw [List.append_toArray]; exact e
            · rw [A2.length_toArray hv, A2.length_toArray hu, sizeLine_eq]; lia
          · exact hb.elim
        · exact hb.elim
      · replace hb := onI_inv hb
        obtain ⟨k, rfl, hb⟩ := hb
        split at hb
        · obtain ⟨l1, h1, rfl⟩ := ra; obtain ⟨u, rfl⟩ := rb
          split at hb
          · rename_i y e1
            obtain ⟨vs, n, hl, hv⟩ := x.lsAt e1 h1
            obtain ⟨v, rfl, hv1⟩ := hv.one
            have e := Post.list (Q := Q) (s := s) (s.toks) x (Ext.refl ..) (A2.repl hv1 k.toNat) hb.2.2
            refine mul_one hl (by have := hb.1; lia) (by have := hb.2.1; lia) ?_ ?_
            · have := hb.2.1
              show 1 * k.toNat ≤ 2 ^ 24
              lia
            · have e2 : (List.foldl (fun x1 x2 => x1 ++ x2) #[] (List.replicate (if ([v].toArray : Array Value).isEmpty = true then 0 else k.toNat) [v].toArray)) = (List.replicate k.toNat v).toArray := by
                have : ([v].toArray : Array Value).isEmpty = false := rfl
                rw [this]
                have := foldl_app k.toNat v #[]
                simpa using this
              rw [e2]; exact e
          · exact hb.elim
        · exact hb.elim
end
end Mine

/-! S2 -/
namespace Mine
open PySem PySem.W PyProof.Rows PySem.Calls

theorem A2_perm {α β : Type} {R : α → β → Prop} {as as' : List α} (p : as'.Perm as) : ∀ {bs : List β}, A2 R as bs → ∃ bs', A2 R as' bs' ∧ bs'.Perm bs := by
  induction p with
  | nil => intro bs h; exact ⟨bs, h, .refl _⟩
  | cons x _ ih =>
    intro bs h
    cases bs with
    | nil => exact h.elim
    | cons b bs =>
      obtain ⟨bs', h1, h2⟩ := ih h.2
      exact ⟨b :: bs', ⟨h.1, h1⟩, h2.cons b⟩
  | swap x y l =>
    intro bs h
    match bs, h with
    | a :: b :: bs, h => exact ⟨b :: a :: bs, ⟨h.2.1, h.1, h.2.2⟩, .swap _ _ _⟩
  | trans _ _ ih1 ih2 =>
    intro bs h
    obtain ⟨b1, h1, p1⟩ := ih2 h
    obtain ⟨b2, h2, p2⟩ := ih1 h1
    exact ⟨b2, h2, p2.trans p1⟩

section
variable {prog : Program} {w : World} {A : Around} {E : Value → Shared → Prop} {s : Shared}

noncomputable def setObj (es : Array (Int × Value)) (ep : Nat) (t : SetTable) : Obj := { cls := .type "set", dict := none, data := .set es ep t, slots := #[] }
theorem SetO.mk {es : Array (Int × Value)} {ep : Nat} {t : SetTable} {ms ns : List Int} (hA : A2 SetE es.toList ms) (hp : ms.Perm ns) (hn : ns.Nodup) (G : TG t es.size) (hl : w.params.followText "set-order" = true ∨ t.led = true) : SetO w (setObj es ep t) ns :=
  ⟨es, ep, t, ms, rfl, hA, hp, hn, G.fits, G, hl⟩
theorem SetO.elems {es : Array (Int × Value)} {ms : List Int} (hA : A2 SetE es.toList ms) : ElemsOf (intKind prog w) es.toList := by
  intro e he
  have : ∀ {l : List (Int × Value)} {ms : List Int}, A2 SetE l ms → e ∈ l → ∃ k tk, e = (hashInt k, Value.int k tk) := by
    intro l
    induction l with
    | nil => intro ms _ h; cases h
    | cons x l ih =>
      intro ms h he
      cases ms with
      | nil => exact h.elim
      | cons m ms =>
        rcases List.mem_cons.mp he with rfl | he
        · obtain ⟨tk, e⟩ := h.1
          exact ⟨m, tk, e⟩
        · exact ih h.2 he
  obtain ⟨k, tk, rfl⟩ := this hA he
  exact ⟨⟨k, intKind_is _ _ _ _, rfl⟩, rfl⟩
theorem A2_snoc {l : List (Int × Value)} {ms : List Int} {k : Int} {tk : Tok} (h : A2 SetE l ms) : A2 SetE (l ++ [(hashInt k, Value.int k tk)]) (ms ++ [k]) := A2.append h ⟨⟨tk, rfl⟩, trivial⟩

theorem sizeAbove_good : ∀ n < 64, (SetTable.sizeAbove n = 8 ∨ SetTable.sizeAbove n = 16 ∨ SetTable.sizeAbove n = 32 ∨ SetTable.sizeAbove n = 64) ∧ n < SetTable.sizeAbove n := by decide +kernel
theorem good_above0 : ∀ n < 64, (SetTable.sizeAbove n - 1 = 7 ∨ SetTable.sizeAbove n - 1 = 15 ∨ SetTable.sizeAbove n - 1 = 31 ∨ SetTable.sizeAbove n - 1 = 63) ∧ n ≤ SetTable.sizeAbove n - 1 := by decide +kernel
theorem good_above {n : Nat} (h : n < 64) : goodMask (SetTable.sizeAbove n - 1) ∧ n ≤ SetTable.sizeAbove n - 1 := good_above0 n h

theorem relaid_some {t : SetTable} {wanted : Nat} {hashes : Array Int} (hp : t.plain = true) (hw : wanted < 64) (h5 : hashes.size * 5 < (SetTable.sizeAbove wanted - 1) * 3) :
    ∃ t' order, t.relaid hashes wanted = some (t', order) ∧ TG t' hashes.size ∧ t'.led = t.led ∧ order.toList.Perm (List.range hashes.size) := by
  obtain ⟨t', order, a, b, c, d, e⟩ := laid_some (finger := t.finger) (moves := t.movedTo (SetTable.sizeAbove wanted - 1)) (led := t.led) (good_above hw).1 h5
  refine ⟨t', order, ?_, b, c, e⟩
  unfold SetTable.relaid
  rw [hp]
  exact a
theorem picked_perm {es : Array (Int × Value)} {order : Array Nat} (h : order.toList.Perm (List.range es.size)) : (order.filterMap (es[·]?)).toList.Perm es.toList := by
  rw [Array.toList_filterMap]
  exact (h.filterMap _).trans (by rw [filterMap_getElem?_range])

theorem TG.put {t : SetTable} {n j : Nat} (G : TG t n) (hj : j ≤ t.mask) (hn : j ∉ t.place.toList) : (t.put j).2 = SetTable.below t.place j ∧ (t.put j).1 = { t with place := SetTable.insertAt t.place (SetTable.below t.place j) j } := by
  unfold SetTable.put
  refine ⟨rfl, ?_⟩
  have : SetTable.has t.dummies j = false := by rw [G.dum]; rfl
  dsimp only
  rw [this]
  rfl
theorem insertAt_size {α : Type} (xs : Array α) (p : Nat) (x : α) : (SetTable.insertAt xs p x).size = xs.size + 1 := by
  have := (SetTable.insertAt_perm xs p x).length_eq
  simpa using this

/-- an int joins a set -/
theorem addHashed {c : Obj} {ns : List Int} {a : Addr} {k : Int} {tk : Tok} {Q : Bool → Shared → Prop} (hc : s.heap.get? a = some c) (x : SetO w c ns) (hn : ns.length ≤ 13)
    (h : ∀ h' c', Heap.SameBut a s.heap h' → h'.get? a = some c' → SetO w c' (lIns ns k) → ∀ b, Q b { s with heap := h' }) :
    wpAny (model prog w) A (setAddHashed a (.int k tk) (hashInt k)) Q E s := by
  obtain ⟨es, ep, t, ms, rfl, hA, hp, hnd, hf, G, hl⟩ := x
  have hsz : es.size = ns.length := by rw [← Array.length_toList, A2.length hA, hp.length_eq]
  have hel := SetO.elems (prog := prog) (w := w) hA
  have hb : es.size < scanBound := by rw [hsz]; unfold scanBound; lia
  have hkey : (intKind prog w).is k (.int k tk) = true := intKind_is _ _ _ _
  unfold setAddHashed setAddHashedIn
  refine wpAny_holding (wpAny_bind (wpAny_setState_of hc rfl hf ?_))
  dsimp only
  rw [byScan_of rfl hb hel]
  simp only [↓reduceIte]
  unfold setAddByScan
  refine wpAny_bind ?_
  refine wpAny_bind (wpAny_rule ?_)
  refine wpAny_bind (wpAny_setScan_of (knd := intKind prog w) hkey hc rfl hf hel ?_)
  have hmem : ∀ {l : List (Int × Value)} {ms : List Int}, A2 SetE l ms → ((∃ e ∈ l, (intKind prog w).is k e.2 = true) ↔ k ∈ ms) := by
    intro l
    induction l with
    | nil => intro ms h; cases ms with
      | nil => simp
      | cons _ _ => exact h.elim
    | cons e l ih => intro ms h; cases ms with
      | nil => exact h.elim
      | cons m ms =>
        obtain ⟨⟨u, rfl⟩, h2⟩ := h
        have hh := ih h2
        simp only [List.mem_cons]
        rw [← hh]
        constructor
        · rintro ⟨e, he | he, q⟩
          · subst he
            exact .inl ((intKind prog w).inj _ _ _ q (intKind_is _ _ _ _))
          · exact .inr ⟨e, he, q⟩
        · rintro (rfl | ⟨e, he, q⟩)
          · exact ⟨_, .inl rfl, intKind_is _ _ _ _⟩
          · exact ⟨e, .inr he, q⟩
  cases hr : List.findIdx? (fun e => (intKind prog w).is k e.2) es.toList with
  | some j =>
    dsimp only
    obtain ⟨hj, hpj, _⟩ := List.findIdx?_eq_some_iff_getElem.mp hr
    have hk : k ∈ ns := hp.mem_iff.mp ((hmem hA).mp ⟨es.toList[j], List.getElem_mem hj, hpj⟩)
    refine wpAny_pure (wpAny_pure ?_)
    have e : s = { s with heap := s.heap } := by cases s; rfl
    have hi : lIns ns k = ns := by unfold lIns; rw [if_pos hk]
    have := h s.heap _ (Heap.SameBut.refl a s.heap) hc (by rw [hi]; exact SetO.mk hA hp hnd G hl) false
    rw [e]; exact this
  | none =>
    dsimp only
    have hk : k ∉ ns := by
      intro q
      obtain ⟨e, he, hq⟩ := (hmem hA).mpr (hp.mem_iff.mpr q)
      have := List.findIdx?_eq_none_iff.mp hr e he
      rw [hq] at this; cases this
    have hi : lIns ns k = ns ++ [k] := by unfold lIns; rw [if_neg hk]
    have hnd' : (ns ++ [k]).Nodup := by
      rw [List.nodup_append]
      exact ⟨hnd, by simp, fun a ha b hb => by rw [List.mem_singleton.mp hb]; rintro rfl; exact hk ha⟩
    obtain ⟨j, f1, f2, f3⟩ := freeSlot_some G (hashInt k)
    obtain ⟨p1, p2⟩ := G.put f2 f3
    have hperm : List.Perm (SetTable.insertAt es (SetTable.below t.place j) (hashInt k, Value.int k tk)).toList (es.toList ++ [(hashInt k, Value.int k tk)]) := by
      have := SetTable.insertAt_perm es (SetTable.below t.place j) (hashInt k, Value.int k tk)
      rwa [Array.toList_push] at this
    obtain ⟨ms1, hA1, hp1⟩ := A2_perm hperm (A2_snoc (k := k) (tk := tk) hA)
    have hp1' : ms1.Perm (ns ++ [k]) := hp1.trans (hp.append_right [k])
    have hs1 : (SetTable.insertAt es (SetTable.below t.place j) (hashInt k, Value.int k tk)).size = es.size + 1 := insertAt_size ..
    have hm := G.mask
    have hload := G.load
    have hn14 : es.size ≤ 13 := by lia
    have hfits : ({ t with place := SetTable.insertAt t.place (SetTable.below t.place j) j } : SetTable).fits (es.size + 1) = true := by
      unfold SetTable.fits SetTable.fill
      dsimp only
      rw [G.dum, insertAt_size, G.size]
      unfold goodMask at hm
      simp
      lia
    have hlay : layNew t es (hashInt k) (.int k tk) = (SetTable.insertAt es (SetTable.below t.place j) (hashInt k, Value.int k tk), { t with place := SetTable.insertAt t.place (SetTable.below t.place j) j }, false, false) := by
      unfold layNew
      rw [f1]
      dsimp only
      rw [p1, p2, hs1]
      unfold SetTable.orStandIn
      rw [if_pos hfits, hfits]; rfl
    rw [hlay]
    dsimp only
    generalize hE1 : SetTable.insertAt es (SetTable.below t.place j) (hashInt k, Value.int k tk) = es1 at hA1 hs1 ⊢
    refine wpAny_bind (wpAny_pure ?_)
    rw [if_pos G.plain]
    refine wpAny_bind ?_
    rw [hashByValue_scannable 8 rfl]
    refine wpAny_pure ?_
    simp only [plainKind, ↓reduceIte]
    generalize hT1 : ({ t with place := SetTable.insertAt t.place (SetTable.below t.place j) j } : SetTable) = t1 at hfits ⊢
    have t1m : t1.mask = t.mask := by rw [← hT1]
    have t1d : t1.dummies = #[] := by rw [← hT1]; exact G.dum
    have t1p : t1.plain = true := by rw [← hT1]; exact G.plain
    have t1l : t1.led = t.led := by rw [← hT1]
    have t1f : t1.fill = es.size + 1 := by
      unfold SetTable.fill
      rw [t1d, ← hT1]
      dsimp only
      rw [insertAt_size, G.size]; rfl
    have hl1 : w.params.followText "set-order" = true ∨ t1.led = true := by rw [t1l]; exact hl
    have get1 : ∀ (hp₀ : Heap) (o : Obj) (e0 : Array (Int × Value)) (n0 : Nat) (t0 : SetTable) (e2 : Array (Int × Value)) (t2 : SetTable), o = setObj e0 n0 t0 → hp₀.get? a = some o → (hp₀.update a (Obj.putSet e2 t2)).get? a = some (setObj e2 (n0 + 1) t2) := by
      rintro hp₀ _ e0 n0 t0 e2 t2 rfl hg
      have := Heap.get?_update_self (Obj.putSet e2 t2) hg (by rfl)
      exact this
    refine wpAny_bind (wpAny_storeSet_of hc rfl ?_ (by rw [hs1, sizeLine_eq]; lia))
    have g1 := get1 s.heap _ es ep t es1 t1 rfl hc
    have sb1 := Heap.SameBut.update s.heap a (Obj.putSet es1 t1)
    by_cases htf : t1.tooFull = true
    · rw [if_pos (by simpa using htf)]
      unfold SetTable.tooFull at htf
      rw [t1f, t1m] at htf
      have htf' : (es.size + 1) * 5 ≥ t.mask * 3 := by simpa using htf
      have hgr : SetTable.grown es1.size = (es.size + 1) * 4 := by
        unfold SetTable.grown
        rw [hs1, if_neg (by lia)]
      have hw64 : (es.size + 1) * 4 < 64 := by lia
      obtain ⟨q1, q2⟩ := good_above hw64
      obtain ⟨t2, order, r1, r2, r3, r4⟩ := relaid_some (t := t1) (hashes := es1.map (·.1)) t1p hw64 (by rw [Array.size_map, hs1]; unfold goodMask at hm; lia)
      rw [Array.size_map] at r2 r4
      have hpk := picked_perm r4
      have hsz2 : (order.filterMap (es1[·]?)).size = es1.size := by rw [← Array.length_toList, hpk.length_eq, Array.length_toList]
      have hrel : relayAll t1 es1 (SetTable.grown es1.size) = (order.filterMap (es1[·]?), t2, false) := by
        unfold relayAll
        rw [hgr, r1]
        dsimp only
        rw [if_pos]
        rw [Bool.and_eq_true]
        refine ⟨?_, ?_⟩
        · unfold coversAll
          exact List.isPerm_iff.mpr r4
        · rw [hsz2]; exact r2.fits
      rw [hrel]
      refine wpAny_bind (wpAny_pure ?_)
      refine wpAny_bind (wpAny_storeSet_of g1 rfl ?_ (by dsimp only; rw [hsz2, hs1, sizeLine_eq]; lia))
      obtain ⟨ms2, hA2, hp2⟩ := A2_perm hpk hA1
      refine wpAny_pure (wpAny_pure ?_)
      refine h _ _ (sb1.trans (Heap.SameBut.update _ a _)) (get1 _ _ _ _ _ _ _ rfl g1) ?_ true
      rw [hi]
      exact SetO.mk hA2 (hp2.trans hp1') hnd' (by rw [hsz2]; exact r2) (by rw [r3]; exact hl1)
    · rw [if_neg (by simpa using htf)]
      unfold SetTable.tooFull at htf
      rw [t1f, t1m] at htf
      have htf' : ¬ (es.size + 1) * 5 ≥ t.mask * 3 := by simpa using htf
      refine wpAny_pure (wpAny_pure ?_)
      refine h _ _ sb1 g1 ?_ true
      rw [hi]
      refine SetO.mk hA1 hp1' hnd' ⟨by rw [t1m]; exact hm, ?_, t1d, ?_, ?_, t1p, by rw [t1m, hs1]; lia⟩ hl1
      · rw [← hT1, hs1]; dsimp only; rw [insertAt_size, G.size]
      · rw [← hT1]; exact rising_insert G.rising f3
      · intro p hp
        rw [← hT1] at hp ⊢
        have := (SetTable.insertAt_perm t.place (SetTable.below t.place j) j).mem_iff.mp hp
        rw [Array.toList_push] at this
        rcases List.mem_append.mp this with q | q
        · exact G.le p q
        · rw [List.mem_singleton.mp q]; exact f2
end
end Mine

/-! S3 -/
namespace Mine
open PySem PySem.W PyProof.Rows PySem.Calls
section
variable {prog : Program} {w : World} {A : Around} {E : Value → Shared → Prop} {s : Shared}

noncomputable def newT (w : World) : SetTable := .fresh 0 0 (!w.params.followText "set-order")
theorem SetO.fresh : SetO w (setObj #[] 0 (newT w)) [] :=
  SetO.mk (ms := []) trivial (.refl _) .nil (TG.fresh _) (by cases h : w.params.followText "set-order" <;> simp [newT, SetTable.fresh, h])

theorem code_new {extra : List Value} (hn : extra = [] ∨ ∃ a, extra = [a]) {Q₁ : Value → Shared → Prop} (h : Q₁ (.ref s.heap.objs.size) { s with heap := s.heap.push (setObj #[] 0 (newT w)) }) :
    codeAny (model prog w) A (.call (.builtin "set.__new__") ⟨.type "set" :: extra, []⟩) (wants Q₁ E) s := by
  have hc : checkBuiltinCall "set.__new__" ⟨.type "set" :: extra, []⟩ = pure () := by
    rcases hn with rfl | ⟨a, rfl⟩
    · exact F.newCall_set_0
    · exact F.newCall_set_1 a
  refine codeAny_of_tree ?_
  show wpAny _ A.in1 (do checkBuiltinCall "set.__new__" ⟨.type "set" :: extra, []⟩; again (.builtin "set.__new__" ⟨.type "set" :: extra, []⟩)) _ _ s
  refine wpAny_bind (wpAny_of_eq hc (wpAny_pure ⟨plainId_quiet F.plain_set_new _, codeAny_builtin F.entry_set_new ?_⟩))
  rw [Around.under_plainId F.plain_set_new _]
  unfold Builtin.«set.__new__» Builtin.Frozenset.newClass
  have hsub := sub_set_self
  obtain ⟨hp, g, d, tk, os⟩ := s
  dsimp only
  wp_walk
  refine wpAny_askSetting (wpAny_pure ?_)
  dsimp only
  simp only [newObj]
  refine wpAny_bind (wpAny_alloc (wpAny_pure ?_))
  exact wpAny_pure h

set_option maxHeartbeats 4000000 in
theorem call_set_any0 {Q : Value → Shared → Prop}
    (h : ∀ s₁ : Shared, s₁ = { s with heap := s.heap.push (setObj #[] 0 (newT w)) } → wpAny (model prog w) A.in1.in1 (Builtin.«set.__init__» ⟨.ref s.heap.objs.size :: [], []⟩)
      (fun fin s' => match fin with | .done f => wants (fun r s₂ => r = .none ∧ Q (.ref s.heap.objs.size) s₂) E (.ok f) s' | .again c' => c'.quiet = true ∧ codeAny (model prog w) A.in1 c' (wants (fun r s₂ => r = .none ∧ Q (.ref s.heap.objs.size) s₂) E) s')
      (fun e s' => wants (fun r s₂ => r = .none ∧ Q (.ref s.heap.objs.size) s₂) E (.error e) s') s₁) :
    wpAny (model prog w) A (call (.type "set") []) Q E s := by
  obtain ⟨c, tl, hmro⟩ := F.called_set.mro
  have hmade := F.called_set.made
  have hsub := F.called_set.sub
  have h1 := F.called_set.notType
  have h2 := F.called_set.canCreate
  have hct : checkTypeCall "set" ⟨[], []⟩ = pure () := F.typeCall_set_0
  have hch : ∀ (o : Value) (s₁ : Shared) {M : Model} {A' : Around} {E' : Value → Shared → Prop} {Q' : Unit → Shared → Prop}, s₁.TypeIs o "set" → Q' () s₁ → wpAny M A' (checkBuiltinCall "set.__init__" ⟨o :: [], []⟩) Q' E' s₁ := fun o s₁ M A' E' Q' hT q => check_set_init hT q
  refine wpAny_call (codeAny_of_tree ?_)
  show wpAny _ _ (callAny (.type "set") _) _ _ _
  refine wpAny_pure ⟨Code.quiet_builtin _ (by decide +kernel), codeAny_builtin F.entry_type_call ?_⟩
  rw [Around.under_plain (weight_type_call_type "set" [] []) rfl]
  repeat (any_goals (first | assumption | wp_step))
  refine codeAny_mono (code_new (.inl rfl) (E := E) (Q₁ := fun obj s₁ => obj = .ref s.heap.objs.size ∧ s₁ = { s with heap := s.heap.push (setObj #[] 0 (newT w)) }) ⟨rfl, rfl⟩) fun r s₁ hr => ?_
  cases r with
  | error e => exact hr
  | ok fl =>
    cases fl with
    | ret obj =>
      obtain ⟨rfl, e1⟩ := hr
      have hT : s₁.TypeIs (.ref s.heap.objs.size) "set" := by
        subst e1
        exact ⟨_, Heap.get?_push_size _ rfl, rfl⟩
      have hli := F.called_set.init.lookup
      have hbi := F.called_set.init.bind (.ref s.heap.objs.size)
      have hs1 := h s₁ e1
      clear e1
      repeat (any_goals (first | assumption | wp_step))
      refine codeAny_mono (codeAny_call_builtin (R := wants (fun r s₂ => r = .none ∧ Q (.ref s.heap.objs.size) s₂) E) F.called_set.init.plain F.entry_set_init (hch _ _ hT hs1)) fun r₂ s₂ hr₂ => ?_
      cases r₂ with
      | error e => exact hr₂
      | ok fl₂ =>
        cases fl₂ with
        | ret r =>
          obtain ⟨rfl, hq⟩ := hr₂
          repeat (any_goals (first | assumption | wp_step))
        | _ => exact hr₂.elim
    | _ => exact hr.elim

set_option maxHeartbeats 4000000 in
theorem call_set_any1 {a : Value} {Q : Value → Shared → Prop}
    (h : ∀ s₁ : Shared, s₁ = { s with heap := s.heap.push (setObj #[] 0 (newT w)) } → wpAny (model prog w) A.in1.in1 (Builtin.«set.__init__» ⟨.ref s.heap.objs.size :: [a], []⟩)
      (fun fin s' => match fin with | .done f => wants (fun r s₂ => r = .none ∧ Q (.ref s.heap.objs.size) s₂) E (.ok f) s' | .again c' => c'.quiet = true ∧ codeAny (model prog w) A.in1 c' (wants (fun r s₂ => r = .none ∧ Q (.ref s.heap.objs.size) s₂) E) s')
      (fun e s' => wants (fun r s₂ => r = .none ∧ Q (.ref s.heap.objs.size) s₂) E (.error e) s') s₁) :
    wpAny (model prog w) A (call (.type "set") [a]) Q E s := by
  obtain ⟨c, tl, hmro⟩ := F.called_set.mro
  have hmade := F.called_set.made
  have hsub := F.called_set.sub
  have h1 := F.called_set.notType
  have h2 := F.called_set.canCreate
  have hct : checkTypeCall "set" ⟨[a], []⟩ = pure () := F.typeCall_set_1 a
  have hch : ∀ (o : Value) (s₁ : Shared) {M : Model} {A' : Around} {E' : Value → Shared → Prop} {Q' : Unit → Shared → Prop}, s₁.TypeIs o "set" → Q' () s₁ → wpAny M A' (checkBuiltinCall "set.__init__" ⟨o :: [a], []⟩) Q' E' s₁ := fun o s₁ M A' E' Q' hT q => check_set_init_1 hT q
  refine wpAny_call (codeAny_of_tree ?_)
  show wpAny _ _ (callAny (.type "set") _) _ _ _
  refine wpAny_pure ⟨Code.quiet_builtin _ (by decide +kernel), codeAny_builtin F.entry_type_call ?_⟩
  rw [Around.under_plain (weight_type_call_type "set" [a] []) rfl]
  repeat (any_goals (first | assumption | wp_step))
  refine codeAny_mono (code_new (.inr ⟨a, rfl⟩) (E := E) (Q₁ := fun obj s₁ => obj = .ref s.heap.objs.size ∧ s₁ = { s with heap := s.heap.push (setObj #[] 0 (newT w)) }) ⟨rfl, rfl⟩) fun r s₁ hr => ?_
  cases r with
  | error e => exact hr
  | ok fl =>
    cases fl with
    | ret obj =>
      obtain ⟨rfl, e1⟩ := hr
      have hT : s₁.TypeIs (.ref s.heap.objs.size) "set" := by
        subst e1
        exact ⟨_, Heap.get?_push_size _ rfl, rfl⟩
      have hli := F.called_set.init.lookup
      have hbi := F.called_set.init.bind (.ref s.heap.objs.size)
      have hs1 := h s₁ e1
      clear e1
      repeat (any_goals (first | assumption | wp_step))
      refine codeAny_mono (codeAny_call_builtin (R := wants (fun r s₂ => r = .none ∧ Q (.ref s.heap.objs.size) s₂) E) F.called_set.init.plain F.entry_set_init (hch _ _ hT hs1)) fun r₂ s₂ hr₂ => ?_
      cases r₂ with
      | error e => exact hr₂
      | ok fl₂ =>
        cases fl₂ with
        | ret r =>
          obtain ⟨rfl, hq⟩ := hr₂
          repeat (any_goals (first | assumption | wp_step))
        | _ => exact hr₂.elim
    | _ => exact hr.elim

theorem set_new_ {Q : Value → Shared → Prop} (h : ∀ c, SetO w c [] → c.isFreed = false → Q (.ref s.heap.objs.size) { s with heap := s.heap.push c }) :
    wpAny (model prog w) A (call (.type "set") []) Q E s := by
  refine call_set_any0 fun s₁ e => ?_
  subst e
  have hS : (s.heap.push (setObj #[] 0 (newT w))).get? s.heap.objs.size = some (setObj #[] 0 (newT w)) := Heap.get?_push_size _ rfl
  have hT : Shared.TypeIs { s with heap := s.heap.push (setObj #[] 0 (newT w)) } (.ref s.heap.objs.size) "set" := ⟨_, hS, rfl⟩
  unfold Builtin.«set.__init__» noKeywords
  wp_walk
  exact ⟨rfl, h _ SetO.fresh rfl⟩
end
end Mine

/-! S4 -/
namespace Mine
open PySem PySem.W PyProof.Rows PySem.Calls
section
variable {prog : Program} {w : World} {A : Around} {E : Value → Shared → Prop} {s : Shared}

theorem lUni_take {ns : List Int} {i : Nat} (h : i < ns.length) : lUni [] (ns.take (i + 1)) = lIns (lUni [] (ns.take i)) ns[i] := by
  unfold lUni
  rw [List.take_succ_eq_append_getElem h, List.foldl_append]; rfl

theorem upd_loop {R : Result → Shared → Prop} (hh : A.handled = none) {S l I : Addr} {vs : List Value} {ns : List Int} (hI : A2 (fun v i => ∃ t, v = Value.int i t) vs ns) (hb : ns.length ≤ 14) (hSI : S ≠ I) (hSl : S ≠ l) (hlI : l ≠ I) :
    ∀ (k i : Nat) (s : Shared) (c : Obj), ns.length - i = k → i ≤ ns.length → s.heap.IsListIter I l i → s.heap.IsList l vs.toArray → s.heap.get? S = some c → SetO w c (lUni [] (ns.take i)) →
      (∀ h' tk c', (∀ b o, b ≠ S → b ≠ I → s.heap.get? b = some o → h'.get? b = some o) → h'.get? S = some c' → SetO w c' (lDed ns) → R (.ok (.ret .none)) { s with heap := h', toks := tk }) →
      codeAny (model prog w) A (.builtin "set.update.loop" ⟨[.ref S, .ref I], []⟩) R s := by
  have hh1 : A.in1.handled = none := by simp [hh]
  intro k
  induction k with
  | zero =>
    intro i s c hk hi hit hl hc x hR
    have hin : i = ns.length := by lia
    subst hin
    refine codeAny_builtin F.entry_set_update_loop ?_
    rw [Around.under_plainId F.plain_set_update_loop _]
    show wpAny _ A.in1 (pyNext (.ref I) >>= _) _ _ s
    refine wpAny_bind (wpAny_pyNext_list_end hh1 hit hl (by rw [Array.getElem?_eq_none]; rw [List.size_toArray, A2.length hI]; exact Nat.le_refl _) fun h' hs' => ?_)
    show wpAny _ A.in1 (ret Value.none) _ _ _
    rw [List.take_length] at x
    refine wpAny_pure (hR h' s.toks c (fun b o _ n e => hs' b o n e) (hs' S c hSI hc) x)
  | succ k ih =>
    intro i s c hk hi hit hl hc x hR
    have hlt : i < ns.length := by lia
    refine codeAny_builtin F.entry_set_update_loop ?_
    rw [Around.under_plainId F.plain_set_update_loop _]
    show wpAny _ A.in1 (pyNext (.ref I) >>= _) _ _ s
    obtain ⟨v, hv, t, rfl⟩ := A2.getA hI (List.getElem?_eq_getElem hlt)
    refine wpAny_bind (wpAny_pyNext_list_item hit hl hv fun h' hit' hs' => ?_)
    have hc' : h'.get? S = some c := (hs'.2 S hSI).trans hc
    show wpAny _ A.in1 (holding [Value.int ns[i] t] (setAdd S (.int ns[i] t)) >>= _) _ _ _
    refine wpAny_bind (wpAny_holding ?_)
    unfold setAdd
    refine wpAny_holding ?_
    refine wpAny_bind ((intKind prog w).pyHash (k := ns[i]) (intKind_is _ _ _ _) ?_)
    have hlen : (lUni [] (ns.take i)).length ≤ 13 := by
      have := len_lUni (s := []) (t := ns.take i)
      rw [List.length_take, List.length_nil] at this
      lia
    refine addHashed (s := { s with heap := h', toks := s.toks + 1 }) hc' x hlen fun h2 c2 sb2 hc2 x2 _ => ?_
    rw [← lUni_take hlt] at x2
    have hit2 : h2.IsListIter I l (i + 1) := hit'.at fun o e => (sb2.2 I (Ne.symm hSI)).trans e
    have hl2 : h2.IsList l vs.toArray := hl.at fun o e => (sb2.2 l (Ne.symm hSl)).trans ((hs'.2 l hlI).trans e)
    refine wpAny_pure ⟨plainId_quiet F.plain_set_update_loop _, ih (i + 1) { s with heap := h2, toks := s.toks + 1 } c2 (by lia) hlt hit2 hl2 hc2 x2 fun h3 tk c3 k3 hc3 x3 => ?_⟩
    exact hR h3 tk c3 (fun b o n1 n2 e => k3 b o n1 n2 ((sb2.2 b n1).trans ((hs'.2 b n2).trans e))) hc3 x3

set_option maxHeartbeats 4000000 in
theorem set_list_ {l : Addr} {vs : List Value} {ns : List Int} {Q : Value → Shared → Prop} (hh : A.handled = none) (hl : s.heap.IsList l vs.toArray) (hi : A2 (fun v i => ∃ t, v = Value.int i t) vs ns) (hn : ns.length ≤ 14)
    (h : ∀ h' tk c, (∀ b o, s.heap.get? b = some o → h'.get? b = some o) → s.heap.objs.size < h'.objs.size → h'.get? s.heap.objs.size = some c → SetO w c (lDed ns) → Q (.ref s.heap.objs.size) { s with heap := h', toks := tk }) :
    wpAny (model prog w) A (call (.type "set") [.ref l]) Q E s := by
  refine call_set_any1 fun s₁ e => ?_
  have hS : (s.heap.push (setObj #[] 0 (newT w))).get? s.heap.objs.size = some (setObj #[] 0 (newT w)) := Heap.get?_push_size _ rfl
  have hl1 : (s.heap.push (setObj #[] 0 (newT w))).IsList l vs.toArray := hl.push _
  have hlS : l < s.heap.objs.size := by obtain ⟨o, ho, _⟩ := hl; exact Heap.lt_size ho
  subst e
  have hT : Shared.TypeIs { s with heap := s.heap.push (setObj #[] 0 (newT w)) } (.ref s.heap.objs.size) "set" := ⟨_, hS, rfl⟩
  have hTl : Shared.TypeIs { s with heap := s.heap.push (setObj #[] 0 (newT w)) } (.ref l) "list" := hl1.typeIs
  have hsls := F.sub_list_set
  have hslf := F.sub_list_frozenset
  have hne : (Value.type "list" == Value.type "dict") = false := by decide
  obtain ⟨ol, hol, hcl, nl, hdl⟩ := id hl1
  obtain ⟨ocls, odict, odata, oslots⟩ := ol
  simp only at hcl hdl
  subst hcl; subst hdl
  unfold setObj at hS hl1 hol ⊢
  unfold Builtin.«set.__init__» noKeywords Builtin.Frozenset.updateFrom
  generalize hPI : pyIter = PI
  wp_walk
  subst hPI
  refine wpAny_pyIter_list hl1 ?_
  refine wpAny_bind (wpAny_runValue ?_)
  have hsz : (s.heap.push { cls := Value.type "set", data := Data.set #[] 0 (newT w) }).objs.size = s.heap.objs.size + 1 := Heap.size_push ..
  have hneI : l ≠ (s.heap.push { cls := Value.type "set", data := Data.set #[] 0 (newT w) }).objs.size := by
    rw [hsz]; exact Nat.ne_of_lt (Nat.lt_succ_of_lt hlS)
  have hSI : s.heap.objs.size ≠ (s.heap.push { cls := Value.type "set", data := Data.set #[] 0 (newT w) }).objs.size := by
    rw [hsz]; exact Nat.ne_of_lt (Nat.lt_succ_self _)
  refine upd_loop (by simp [hh]) hi hn hSI (Nat.ne_of_gt hlS) hneI (ns.length - 0) 0 _ _ rfl (Nat.zero_le _) ⟨_, Heap.get?_push_size _ rfl, rfl, rfl⟩ (hl1.push _) (Heap.get?_push_of_some _ hS) SetO.fresh fun h' tk c k hc x => ?_
  refine wpAny_pure (wpAny_pure ⟨rfl, h h' tk c (fun b o e => ?_) ?_ hc x⟩)
  · refine k b o ?_ ?_ (Heap.get?_push_of_some _ (Heap.get?_push_of_some _ e))
    · exact Nat.ne_of_lt (Heap.lt_size e)
    · rw [hsz]; exact Nat.ne_of_lt (Nat.lt_succ_of_lt (Heap.lt_size e))
  · exact Heap.lt_size hc
end
end Mine

/-! S5 -/
namespace Mine
open PySem PySem.W PyProof.Rows PySem.Calls

theorem below_next {xs : Array Nat} {k j : Nat} (hr : Rising xs.toList) (h : xs[k]? = some j) : SetTable.below xs (j + 1) = k + 1 := by
  obtain ⟨h1, h2, h3⟩ := below_spec xs (j + 1) hr
  obtain ⟨hk, e⟩ := Array.getElem?_eq_some_iff.mp h
  have lo : k < SetTable.below xs (j + 1) := by
    rcases Nat.lt_or_ge k (SetTable.below xs (j + 1)) with q | q
    · exact q
    · have := h3 k q hk
      rw [getD_of hk] at this
      simp [e] at this
      lia
  rcases Nat.lt_or_ge (k + 1) (SetTable.below xs (j + 1)) with q | q
  · have hk1 : k + 1 < xs.size := by lia
    have a := h2 (k + 1) q
    rw [getD_of hk1] at a
    have b := List.pairwise_iff_getElem.mp hr k (k + 1) (by simpa using hk) (by simpa using hk1) (by lia)
    simp [e] at a b
    lia
  · lia
theorem below_zero {xs : Array Nat} (hr : Rising xs.toList) : SetTable.below xs 0 = 0 := by
  obtain ⟨h1, h2, h3⟩ := below_spec xs 0 hr
  rcases Nat.eq_zero_or_pos (SetTable.below xs 0) with q | q
  · exact q
  · have := h2 0 q
    lia
theorem pick_go {α : Type} (next : Nat → Nat) : ∀ (fuel k : Nat) (left : List α) (out : Array α), left.length = fuel → (pickOrder.go next fuel k left out).toList.Perm (out.toList ++ left)
  | 0, k, left, out, h => by
    have : left = [] := List.eq_nil_of_length_eq_zero h
    subst this
    unfold pickOrder.go
    rw [List.append_nil]
  | fuel + 1, k, left, out, h => by
    have hlt : next k % left.length < left.length := Nat.mod_lt _ (by lia)
    unfold pickOrder.go
    rw [List.getElem?_eq_getElem hlt]
    dsimp only
    refine (pick_go next fuel (k + 1) _ _ (by rw [List.length_eraseIdx, if_pos hlt]; lia)).trans ?_
    rw [Array.toList_push, List.append_assoc]
    refine List.Perm.append_left _ ?_
    have pe : ∀ (l : List α) (k : Nat) (h : k < l.length), (l[k] :: l.eraseIdx k).Perm l := by
      intro l
      induction l with
      | nil => intro k h; simp at h
      | cons x l ih =>
        intro k h
        cases k with
        | zero => exact .refl _
        | succ k => exact (List.Perm.swap x (l[k]'(by simpa using h)) (l.eraseIdx k)).trans ((ih k (by simpa using h)).cons x)
    exact pe left _ hlt
theorem pick_perm {α : Type} (next : Nat → Nat) (xs : Array α) : (pickOrder next xs).toList.Perm xs.toList := by
  unfold pickOrder
  exact (pick_go next xs.size 0 xs.toList #[] (by simp)).trans (by simp)

section
variable {prog : Program} {w : World} {A : Around} {E : Value → Shared → Prop} {s : Shared}

theorem set_add_ {c : Obj} {ns : List Int} {a : Addr} {k : Int} {t : Tok} {Q : Value → Shared → Prop} (hc : s.heap.get? a = some c) (x : SetO w c ns) (hn : ns.length ≤ 13)
    (h : ∀ h' tk c', Heap.SameBut a s.heap h' → h'.get? a = some c' → SetO w c' (lIns ns k) → Q .none { s with heap := h', toks := tk }) :
    wpAny (model prog w) A (call (.builtin "set.add") [.ref a, .int k t]) Q E s := by
  have hT : s.TypeIs (.ref a) "set" := by
    obtain ⟨es, ep, t, ms, rfl, _⟩ := x
    exact ⟨_, hc, rfl⟩
  refine wpAny_call_entry F.slot_set_add hT F.entry_set_add ?_ (F.args_set_add_2 _ _)
  unfold Builtin.«set.add» Builtin.Frozenset.oneOther
  simp only [List.isEmpty_nil, bind_assoc]
  unfold Builtin.Frozenset.addrOf setAdd
  refine wpAny_bind (wpAny_pure (wpAny_bind (wpAny_pure (wpAny_bind (wpAny_holding (wpAny_bind ((intKind prog w).pyHash (k := k) (intKind_is _ _ _ _) ?_)))))))
  refine addHashed (s := { s with toks := s.toks + 1 }) hc x hn fun h' c' sb hc' x' b => ?_
  show wpAny _ _ (ret Value.none) _ _ _
  exact wpAny_pure ⟨_, rfl, h h' _ c' sb hc' x'⟩

theorem slot_setiter_next : Slot "set_iterator" "__next__" "set_iterator.__next__" :=
  .of (owner := "set_iterator") (n := "__next__") (by rw [typeLookup_type, builtinLookup_eq_fast]; kernel_rfl) (by decide +kernel) (by decide +kernel) (by decide +kernel)
    (by first | exact .inl (by decide +kernel) | exact .inr (by decide +kernel)) (by rw [isSubtype_type]; kernel_rfl)
theorem entry_setiter_next : entryFor table "set_iterator.__next__" = some Builtin.«set_iterator.__next__» := entryFor_of_fast (by kernel_rfl)
theorem args_setiter_next (a : Value) : argsOk "set_iterator.__next__" ⟨[a], []⟩ := by unfold argsOk; kernel_rfl
theorem entry_setiter : entryFor table "set.__iter__" = some Builtin.«frozenset.__iter__» :=
  entryFor_alias (id' := "frozenset.__iter__") (by kernel_rfl) rfl (by decide +kernel) (by kernel_rfl)

/-- how a set's iterator draws while the set stands as it stood -/
structure SetDr (prog : Program) (w : World) (A : Around) (I a : Addr) (c : Obj) (ms : List Int) (St : Nat → Heap → Prop) : Prop where
  iter : ∀ k h, St k h → ∃ o, h.get? I = some o ∧ ¬ Imm o ∧ ¬ tracked o ∧ ∀ es ep, o.data ≠ .dict es ep
  frame : ∀ k h h', St k h → (∀ o, h.get? I = some o → h'.get? I = some o) → (∀ b o, h.get? b = some o → Imm o → h'.get? b = some o) → St k h'
  item : ∀ k i (s : Shared) (Q : Option Value → Shared → Prop) (E : Value → Shared → Prop), ms[k]? = some i → St k s.heap → s.heap.get? a = some c →
    (∀ t h' tk, St (k + 1) h' → Heap.ExtBut I s.heap h' → Q (some (.int i t)) { s with heap := h', toks := tk }) → wpAny (model prog w) A (pyNext (.ref I)) Q E s
  done : ∀ (s : Shared) (Q : Option Value → Shared → Prop) (E : Value → Shared → Prop), St ms.length s.heap → s.heap.get? a = some c →
    (∀ h' tk, Heap.ExtBut I s.heap h' → Q none { s with heap := h', toks := tk }) → wpAny (model prog w) A (pyNext (.ref I)) Q E s

/-- the iterator at its k-th turn -/
noncomputable def SIt (w : World) (t : SetTable) (a : Addr) (n ep : Nat) (I : Addr) (k : Nat) (h : Heap) : Prop :=
  ∃ (slot : Nat) (d : Option Addr) (sl : Array (Option Value)), h.get? I = some { cls := .type "set_iterator", dict := d, data := .fields #[.int slot 0, .int k 0, .ref a, .int n 0, .int ep 0], slots := sl } ∧ (w.params.followText "set-order" = true ∨ SetTable.below t.place slot = k)

theorem set_iter_ {c : Obj} {ns : List Int} {a : Addr} {Q : Value → Shared → Prop} (hh : A.handled = none) (hc : s.heap.get? a = some c) (x : SetO w c ns) (hn : ns.length ≤ 1000)
    (h : ∀ ms I h₁ tk St, List.Perm ms ns → s.heap.get? I = none → (∀ b o, s.heap.get? b = some o → h₁.get? b = some o) → St 0 h₁ → SetDr prog w A I a c ms St → Q (.ref I) { s with heap := h₁, toks := tk }) :
    wpAny (model prog w) A (pyIter (.ref a)) Q E s := by
  obtain ⟨es, ep, t, ms, rfl, hA, hp, hnd, hf, G, hl⟩ := x
  have hT : s.TypeIs (.ref a) "set" := ⟨_, hc, rfl⟩
  refine wpAny_pyIter_slot hT F.slot_set_iter (wpAny_call_entry F.slot_set_iter hT entry_setiter ?_ (F.args_set_iter_1 _))
  unfold Builtin.«frozenset.__iter__» Builtin.Frozenset.slot0 slotArgs Builtin.Frozenset.sizeOf setDrawn setsByText
  simp only [List.isEmpty_nil, bind_assoc, Bool.not_true, Bool.false_eq_true, if_false, List.length_nil, bne_self_eq_false]
  refine wpAny_bind (wpAny_pure ?_)
  refine wpAny_bind (wpAny_pure ?_)
  refine wpAny_bind (wpAny_setEntries_of hc rfl hf ?_)
  refine wpAny_bind (wpAny_pure ?_)
  refine wpAny_bind (wpAny_setState_of hc rfl hf ?_)
  refine wpAny_bind (wpAny_askSetting ?_)
  refine wpAny_bind (wpAny_pure ?_)
  refine wpAny_bind (wpAny_pure ?_)
  rw [if_neg (by
    intro q
    rw [Bool.and_eq_true] at q
    have q2 : (!t.plain && decide (es.size > 1)) = true := q.2
    rw [G.plain] at q2
    simp at q2)]
  refine wpAny_bind (wpAny_pure ?_)
  refine wpAny_bind (wpAny_setEpoch_of hc rfl hf ?_)
  refine wpAny_bind (wpAny_newObj_type (wpAny_pure ⟨_, rfl, "set_iterator", _, ⟨_, Heap.get?_push_size _ rfl, rfl⟩, slot_setiter_next.lookup, ?_⟩))
  -- the order
  have ord : ∃ (os : Array (Int × Value)) (ms' : List Int), A2 SetE os.toList ms' ∧ ms'.Perm ns ∧ os.size = es.size ∧ (w.params.followText "set-order" = true → os = pickOrder (w.params.setOrder a ep) es) ∧ (w.params.followText "set-order" = false → os = es) := by
    cases hb : w.params.followText "set-order" with
    | true =>
      obtain ⟨m', h1, h2⟩ := A2_perm (pick_perm (w.params.setOrder a ep) es) hA
      exact ⟨_, m', h1, h2.trans hp, by rw [← Array.length_toList, (pick_perm _ es).length_eq, Array.length_toList], fun _ => rfl, fun q => by cases q⟩
    | false => exact ⟨es, ms, hA, hp, rfl, fun q => (by cases q), fun _ => rfl⟩
  obtain ⟨os, ms', hA', hp', hsz, o1, o2⟩ := ord
  have hms : ms'.length = es.size := by rw [← A2.length hA', Array.length_toList, hsz]
  refine h ms' s.heap.objs.size _ s.toks (SIt w t a es.size ep s.heap.objs.size) hp' (get_size _) (fun b o e => Heap.get?_push_of_some _ e) ⟨0, none, #[], Heap.get?_push_size _ rfl, .inr (below_zero G.rising)⟩ ?_
  generalize s.heap.objs.size = I
  have frst : ∀ (s : Shared) (k : Nat) (Q : Option Value → Shared → Prop) (E : Value → Shared → Prop), SIt w t a es.size ep I k s.heap → s.heap.get? a = some { cls := Value.type "set", dict := none, data := Data.set es ep t } →
      (∀ i tk, os[k]? = some (hashInt i, Value.int i tk) → ∀ h' t', SIt w t a es.size ep I (k + 1) h' → Heap.ExtBut I s.heap h' → Q (some (.int i tk)) { s with heap := h', toks := t' }) →
      (os[k]? = none → ∀ h' t', Heap.ExtBut I s.heap h' → Q none { s with heap := h', toks := t' }) → wpAny (model prog w) A (pyNext (.ref I)) Q E s := by
    intro s k Q E hit hc q1 q2
    obtain ⟨slot, d, sl, hI, hs⟩ := hit
    have hTI : s.TypeIs (.ref I) "set_iterator" := ⟨_, hI, rfl⟩
    unfold pyNext
    refine wpAny_bind (wpAny_attempt (wpAny_callSpecial?_slot (name := Str.ofString "__next__") hTI slot_setiter_next
      (wpAny_call_entry slot_setiter_next hTI entry_setiter_next ?_ (args_setiter_next _))))
    unfold Builtin.«set_iterator.__next__» slotArgs
    simp -iota only [List.isEmpty_nil, bind_assoc, Bool.not_true, Bool.false_eq_true, if_false, List.length_nil, bne_self_eq_false]
    dsimp only
    refine wpAny_bind (wpAny_pure (wpAny_bind (wpAny_fieldsOf hI rfl ?_)))
    dsimp only
    refine wpAny_bind (wpAny_setEntries_of hc rfl hf ?_)
    rw [if_neg (by simp)]
    have nx : ∀ (R : Option (Value × Nat) → Shared → Prop) (E' : Value → Shared → Prop), (∀ e next, os[k]? = some e → (w.params.followText "set-order" = true ∨ SetTable.below t.place next = k + 1) → R (some (e.2, next)) s) → (os[k]? = none → R none s) →
        wpAny (model prog w) A.in1 (setNext a slot k ep) R E' s := by
      intro R E' r1 r2
      have fin : ∀ next, (w.params.followText "set-order" = true ∨ (∀ e, os[k]? = some e → SetTable.below t.place next = k + 1)) → R (os[k]?.map fun e => (e.2, next)) s := by
        intro next hn
        cases q : os[k]? with
        | none => exact r2 q
        | some e => exact r1 e next q (hn.imp id fun f => f e q)
      unfold setNext setsByText
      refine wpAny_bind (wpAny_setState_of hc rfl hf ?_)
      refine wpAny_bind (wpAny_bind (wpAny_askSetting (wpAny_pure ?_)))
      cases hb : w.params.followText "set-order" with
      | true =>
        have hb' : (⟨(model prog w).prog, (model prog w).w.params⟩ : Setting).params.followText "set-order" = true := hb
        rw [if_pos hb']
        simp only [bne_self_eq_false, Bool.false_eq_true, if_false]
        unfold setWalk setsByText
        refine wpAny_bind ?_
        refine wpAny_bind (wpAny_setState_of hc rfl hf ?_)
        refine wpAny_bind (wpAny_bind (wpAny_askSetting (wpAny_pure ?_)))
        rw [if_pos hb']
        refine wpAny_bind (wpAny_askSetting (wpAny_pure ?_))
        have := fin slot (.inl hb)
        rw [o1 hb] at this
        exact wpAny_pure this
      | false =>
        have hb' : ¬ (⟨(model prog w).prog, (model prog w).w.params⟩ : Setting).params.followText "set-order" = true := by
          intro q
          have q : w.params.followText "set-order" = true := q
          rw [hb] at q; cases q
        rw [if_neg hb']
        dsimp only
        rw [if_neg (by
          intro q
          have q2 : (!t.plain && decide (es.size > 1)) = true := q
          rw [G.plain] at q2
          simp at q2)]
        have hled : t.led = true := by
          rcases hl with q | q
          · rw [hb] at q; cases q
          · exact q
        refine wpAny_bind ?_
        show wpAny _ _ (if (!t.led && !es.isEmpty) = true then unsupported "set:maker-not-led" else pure ()) _ _ s
        rw [if_neg (by rw [hled]; simp)]
        refine wpAny_pure ?_
        have hbs : SetTable.below t.place slot = k := by
          rcases hs with q | q
          · rw [hb] at q; cases q
          · exact q
        rw [hbs]
        refine wpAny_pure ?_
        have hoe := o2 hb
        subst hoe
        cases q : os[k]? with
        | none => exact r2 q
        | some e =>
          have hk : k < os.size := (Array.getElem?_eq_some_iff.mp q).1
          have hk2 : k < t.place.size := by rw [G.size]; exact hk
          rw [Array.getElem?_eq_getElem hk2]
          exact r1 e _ q (.inr (below_next G.rising (Array.getElem?_eq_getElem hk2)))
    have e1 : ((slot : Int)).toNat = slot := rfl
    have e2 : ((k : Int)).toNat = k := rfl
    have e3 : ((ep : Int)).toNat = ep := rfl
    rw [e1, e2, e3]
    refine wpAny_bind (nx _ _ (fun e next he hnx => ?_) fun he => ?_)
    · dsimp only
      refine wpAny_bind (wpAny_setField hI rfl (by simp) ?_)
      have hI2 := Heap.get?_update_self (Obj.mapFields (·.setIfInBounds 0 (rawInt next))) hI (by rfl)
      refine wpAny_bind (wpAny_setField hI2 rfl (by simp) ?_)
      have hI3 := Heap.get?_update_self (Obj.mapFields (·.setIfInBounds 1 (rawInt ((k : Int) + 1)))) hI2 (by rfl)
      have hel : ∃ i tk, e = (hashInt i, Value.int i tk) := by
        obtain ⟨hlt, he2⟩ := Array.getElem?_eq_some_iff.mp he
        have : ∀ {l : List (Int × Value)} {ms : List Int}, A2 SetE l ms → e ∈ l → ∃ i tk, e = (hashInt i, Value.int i tk) := by
          intro l
          induction l with
          | nil => intro ms _ h; cases h
          | cons x l ih =>
            intro ms h he
            cases ms with
            | nil => exact h.elim
            | cons m ms =>
              rcases List.mem_cons.mp he with rfl | he
              · obtain ⟨tk, e⟩ := h.1
                exact ⟨m, tk, e⟩
              · exact ih h.2 he
        exact this hA' (by rw [← he2]; exact Array.getElem_mem_toList hlt)
      obtain ⟨i, tk, rfl⟩ := hel
      refine wpAny_pure ⟨_, rfl, wpAny_pure (q1 i tk he _ _ ⟨next, d, sl, hI3, hnx⟩ ?_)⟩
      exact fun b o n e => ((Heap.SameBut.update _ I _).2 b n).trans (((Heap.SameBut.update _ I _).2 b n).trans e)
    · dsimp only
      refine wpAny_bind (wpAny_setField hI rfl (by simp) ?_)
      show wpAny _ _ (newExc (.type "StopIteration") [] >>= _) _ _ _
      refine wpAny_bind ?_
      simp only [newExc, newTuple]
      refine wpAny_bind (wpAny_newObj_type ?_ (by size_fits))
      refine wpAny_bind (m := firstArgMember _ _) (wpAny_of_eq (a := Value.none) (by first | rfl | (simp only [firstArgMember]; rfl)) ?_)
      refine wpAny_newObj_type ?_ (by size_fits)
      simp only [raiseNew]
      refine wpAny_bind (wpAny_handled ?_)
      rw [show A.in1.handled = none from hh]
      refine wpAny_bind (wpAny_pure (wpAny_throw ?_))
      refine wpAny_bind (wpAny_isInstance (T := "StopIteration") (b := true) ⟨_, Heap.get?_push_size _ rfl, rfl⟩ isSubtype_stop ?_)
      exact wpAny_pure (q2 he _ _ (((Heap.SameBut.update ..).extBut.push _).push _))
  refine ⟨fun k h hit => ?_, fun k h h' hit hk _ => ?_, fun k i s Q E hm hit hc hQ => ?_, fun s Q E hit hc hQ => ?_⟩
  · obtain ⟨slot, d, sl, hI, _⟩ := hit
    exact ⟨_, hI, (by rintro (⟨q, _⟩ | ⟨q, _⟩) <;> (injection q with q; exact absurd q (by decide))), (by rintro ⟨q | q, _⟩ <;> (injection q with q; exact absurd q (by decide))), fun _ _ q => (by cases q)⟩
  · obtain ⟨slot, d, sl, hI, r⟩ := hit
    exact ⟨slot, d, sl, hk _ hI, r⟩
  · obtain ⟨e, he, tk, rfl⟩ := A2.get hA' hm
    rw [Array.getElem?_toList] at he
    refine frst s k Q E hit hc (fun i' tk' he' h' t' st hs => ?_) fun he' => ?_
    · rw [he] at he'
      injection he' with he'
      have h2 : Value.int i tk = Value.int i' tk' := congrArg Prod.snd he'
      injection h2 with a1 a2
      subst a1; subst a2
      exact hQ tk h' t' st hs
    · rw [he] at he'; cases he'
  · rw [hms] at hit
    refine frst s _ Q E hit hc (fun i' tk' he' => ?_) fun _ h' t' hs => hQ h' t' hs
    have := (Array.getElem?_eq_some_iff.mp he').1
    rw [hsz] at this
    lia
end
end Mine

/-! S6 -/
namespace Mine
open PySem PySem.W PyProof.Rows PySem.Calls

theorem nodup_perm : ∀ {l m : List Int}, l.Nodup → m.Nodup → (∀ x, x ∈ l ↔ x ∈ m) → l.Perm m
  | [], m, _, _, h => by
    cases m with
    | nil => exact .refl _
    | cons x m => have := (h x).mpr (.head _); cases this
  | x :: l, m, hl, hm, h => by
    rw [List.nodup_cons] at hl
    have hx : x ∈ m := (h x).mp (.head _)
    have p := List.perm_cons_erase hx
    refine List.Perm.trans (List.Perm.cons x (nodup_perm hl.2 (hm.erase x) fun y => ?_)) p.symm
    rw [hm.mem_erase_iff]
    constructor
    · intro hy
      exact ⟨fun e => hl.1 (e ▸ hy), (h y).mp (.tail _ hy)⟩
    · rintro ⟨hne, hy⟩
      rcases List.mem_cons.mp ((h y).mpr hy) with e | e
      · exact (hne e).elim
      · exact e
theorem lUni_perm {ns ms ms' : List Int} (hn : ns.Nodup) (hp : ms'.Perm ms) : (lUni ns ms').Perm (lUni ns ms) :=
  nodup_perm (nodup_lUni hn) (nodup_lUni hn) fun x => by rw [mem_lUni, mem_lUni, hp.mem_iff]
theorem lUni_nil_perm {ms : List Int} (hm : ms.Nodup) : ms.Perm (lUni [] ms) :=
  nodup_perm hm (nodup_lUni .nil) fun x => by rw [mem_lUni]; simp
theorem SetO.perm {w : World} {c : Obj} {ns ns' : List Int} (x : SetO w c ns) (p : ns.Perm ns') : SetO w c ns' := by
  obtain ⟨es, ep, t, ms, rfl, hA, hp, hnd, hf, G, hl⟩ := x
  exact ⟨es, ep, t, ms, rfl, hA, hp.trans p, p.nodup_iff.mp hnd, hf, G, hl⟩

section
variable {prog : Program} {w : World} {A : Around} {E : Value → Shared → Prop} {s : Shared}

theorem room_of {es : Array (Int × Value)} {ep : Nat} {t : SetTable} {ns ms : List Int} {a : Addr} {more : Nat} {Q : Unit → Shared → Prop} (hc : s.heap.get? a = some (setObj es ep t)) (hA : A2 SetE es.toList ms) (hp : ms.Perm ns) (G : TG t es.size) (hl : w.params.followText "set-order" = true ∨ t.led = true)
    (hm : 0 < more) (hn : ns.length + more ≤ 14)
    (h : ∀ h' es1 ep1 t1 ms1, Heap.SameBut a s.heap h' → h'.get? a = some (setObj es1 ep1 t1) → A2 SetE es1.toList ms1 → ms1.Perm ns → TG t1 es1.size → (w.params.followText "set-order" = true ∨ t1.led = true) → (es1.size + more) * 5 < t1.mask * 3 → Q () { s with heap := h' }) :
    wpAny (model prog w) A (setRoomFor a more) Q E s := by
  have hsz : es.size = ns.length := by rw [← Array.length_toList, A2.length hA, hp.length_eq]
  unfold setRoomFor
  refine wpAny_bind (wpAny_setState_of hc rfl G.fits ?_)
  dsimp only
  unfold SetTable.roomFor
  rw [G.fill, G.size]
  have e0 : s = { s with heap := s.heap } := by cases s; rfl
  by_cases hr : (es.size + more) * 5 ≥ t.mask * 3
  · rw [if_pos hr]
    dsimp only
    unfold setRelay
    refine wpAny_bind (wpAny_setState_of hc rfl G.fits ?_)
    dsimp only
    have hw : (es.size + more) * 2 < 64 := by lia
    obtain ⟨g1, g2⟩ := good_above hw
    obtain ⟨gA, _⟩ := sizeAbove_good _ hw
    rw [if_neg (by rw [sizeLine_eq]; lia)]
    obtain ⟨t', order, r1, r2, r3, r4⟩ := relaid_some (t := t) (hashes := es.map (·.1)) G.plain hw (by rw [Array.size_map]; lia)
    rw [Array.size_map] at r2 r4
    have hpk := picked_perm r4
    have hsz2 : (order.filterMap (es[·]?)).size = es.size := by rw [← Array.length_toList, hpk.length_eq, Array.length_toList]
    have r1m : t'.mask = SetTable.sizeAbove ((es.size + more) * 2) - 1 := by
      have := (laid_some (finger := t.finger) (moves := t.movedTo (SetTable.sizeAbove ((es.size + more) * 2) - 1)) (led := t.led) (hashes := es.map (·.1)) g1 (by rw [Array.size_map]; lia))
      obtain ⟨t2, o2, q1, _, _, q4, _⟩ := this
      unfold SetTable.relaid at r1
      rw [G.plain, q1] at r1
      cases r1
      exact q4
    refine wpAny_bind (wpAny_of_eq (a := (order.filterMap (es[·]?), t')) ?_ ?_)
    · rw [r1]
      show (if ((order.filterMap (es[·]?)).size != es.size) = true then _ else pure (order.filterMap (es[·]?), t')) = _
      rw [if_neg (by rw [hsz2]; simp)]
    · dsimp only
      refine wpAny_storeSet_of hc rfl ?_ (by rw [hsz2, sizeLine_eq]; lia)
      obtain ⟨m2, hA2, hp2⟩ := A2_perm hpk hA
      refine h _ _ _ _ m2 (Heap.SameBut.update s.heap a _) (Heap.get?_update_self _ hc (by rfl)) hA2 (hp2.trans hp) (by rw [hsz2]; exact r2) (by rw [r3]; exact hl) ?_
      rw [hsz2, r1m]
      lia
  · rw [if_neg hr]
    dsimp only
    refine wpAny_pure ?_
    rw [e0]
    exact h s.heap es ep t ms (Heap.SameBut.refl a s.heap) hc hA hp G hl (by lia)

theorem ior_type : fillsInplaceSlot (.type "set") "or" false = pure true := by
  unfold fillsInplaceSlot
  show (typeLookup (.type "set") (dunderI "or") >>= fun fi => pure (fi.isSome && !isSeqSlot fi)) = pure true
  rw [F.slot_set_ior.lookup]
  rfl

theorem unseen_of {d : Obj} {ms : List Int} {a b : Addr} {Q : Array (Int × Value) → Shared → Prop} (hd : s.heap.get? b = some d) (y : SetO w d ms) (h : ∀ os ms', A2 SetE (Array.toList os) ms' → ms'.Perm ms → Q os s) :
    wpAny (model prog w) A (setWalkUnseen b [a] (some a)) Q E s := by
  obtain ⟨es, ep, t, ms0, rfl, hA, hp, hnd, hf, G, hl⟩ := y
  unfold setWalkUnseen setsByText
  refine wpAny_bind (wpAny_setState_of hd rfl hf ?_)
  dsimp only
  refine wpAny_bind (wpAny_bind (wpAny_askSetting (wpAny_pure ?_)))
  rw [if_pos (by
    show ((w.params.followText "set-order" || (t.led && t.plain)) || decide (es.size ≤ 1)) = true
    rw [G.plain]
    rcases hl with q | q <;> simp [q])]
  unfold setWalk setsByText
  refine wpAny_bind (wpAny_setState_of hd rfl hf ?_)
  dsimp only
  refine wpAny_bind (wpAny_bind (wpAny_askSetting (wpAny_pure ?_)))
  cases hb : w.params.followText "set-order" with
  | true =>
    have hb' : (⟨(model prog w).prog, (model prog w).w.params⟩ : Setting).params.followText "set-order" = true := hb
    rw [if_pos hb']
    refine wpAny_bind (wpAny_askSetting (wpAny_pure ?_))
    obtain ⟨m', h1, h2⟩ := A2_perm (pick_perm (w.params.setOrder b ep) es) hA
    exact h _ m' h1 (h2.trans hp)
  | false =>
    have hb' : ¬ (⟨(model prog w).prog, (model prog w).w.params⟩ : Setting).params.followText "set-order" = true := by
      intro q
      have q : w.params.followText "set-order" = true := q
      rw [hb] at q; cases q
    rw [if_neg hb']
    rw [if_neg (by
      intro q
      have q2 : (!t.plain && decide (es.size > 1)) = true := q
      rw [G.plain] at q2
      simp at q2)]
    have hled : t.led = true := by
      rcases hl with q | q
      · rw [hb] at q; cases q
      · exact q
    refine wpAny_bind ?_
    show wpAny _ _ (if (!t.led && decide (es.size > 1)) = true then unsupported "set:maker-not-led" else pure ()) _ _ s
    rw [if_neg (by rw [hled]; simp)]
    exact wpAny_pure (wpAny_pure (h es ms0 hA hp))

theorem merge_of {c d : Obj} {ns ms : List Int} {a b : Addr} {each : Sem Unit} {Q : Unit → Shared → Prop} (hc : s.heap.get? a = some c) (x : SetO w c ns) (hd : s.heap.get? b = some d) (y : SetO w d ms) (hab : a ≠ b) (hn : ns.length + ms.length ≤ 14)
    (he : ∀ (s' : Shared) (Q' : Unit → Shared → Prop), s'.heap.get? b = some d → Q' () s' → wpAny (model prog w) A each Q' E s')
    (h : ∀ h' c', Heap.SameBut a s.heap h' → h'.get? a = some c' → SetO w c' (lUni ns ms) → Q () { s with heap := h' }) :
    wpAny (model prog w) A (setMerge a b each) Q E s := by
  have y0 := y
  obtain ⟨eo, epo, to, mo, rfl, hAo, hpo, hndo, hfo, Go, hlo⟩ := y
  have hszo : eo.size = ms.length := by rw [← Array.length_toList, A2.length hAo, hpo.length_eq]
  have x0 := x
  obtain ⟨es, ep, t, m0, rfl, hA, hp, hnd, hf, G, hl⟩ := x
  have e0 : s = { s with heap := s.heap } := by cases s; rfl
  unfold setMerge
  rw [if_neg (by simpa using hab)]
  refine wpAny_bind (wpAny_setState_of hd rfl hfo ?_)
  dsimp only
  by_cases hemp : eo.isEmpty = true
  · rw [if_pos hemp]
    have : ms = [] := by
      have : eo.size = 0 := by simpa using hemp
      exact List.eq_nil_of_length_eq_zero (by lia)
    subst this
    refine wpAny_pure ?_
    rw [e0]
    exact h s.heap _ (Heap.SameBut.refl a s.heap) hc x0
  · rw [if_neg hemp]
    have hpos : 0 < eo.size := by
      have : ¬ eo.size = 0 := fun q => hemp (by simpa using q)
      lia
    refine wpAny_bind (room_of hc hA hp G hl hpos (by lia) fun h1 es1 ep1 t1 m1 sb1 hc1 hA1 hp1 G1 hl1 hload => ?_)
    have hd1 : h1.get? b = some (setObj eo epo to) := (sb1.2 b (Ne.symm hab)).trans hd
    refine wpAny_bind (wpAny_setState_of (s := { s with heap := h1 }) hc1 rfl G1.fits ?_)
    dsimp only
    have empty : t1.fill = 0 → ns = [] ∧ es1.size = 0 := by
      intro q
      rw [G1.fill] at q
      refine ⟨List.eq_nil_of_length_eq_zero ?_, q⟩
      rw [← hp1.length_eq, ← A2.length hA1, Array.length_toList]; exact q
    have put : ∀ (es2 : Array (Int × Value)) (t2 : SetTable) (m2 : List Int), A2 SetE es2.toList m2 → m2.Perm ms → ns = [] → TG t2 es2.size → (w.params.followText "set-order" = true ∨ t2.led = true) → wpAny (model prog w) A (storeSet a es2 t2) Q E { s with heap := h1 } := by
      intro es2 t2 m2 q1 q2 q3 q4 q5
      have hs2 : es2.size = ms.length := by rw [← Array.length_toList, A2.length q1, q2.length_eq]
      refine wpAny_storeSet_of (s := { s with heap := h1 }) hc1 rfl ?_ (by rw [hs2, sizeLine_eq]; lia)
      refine h _ _ (sb1.trans (Heap.SameBut.update h1 a _)) (Heap.get?_update_self _ hc1 (by rfl)) ?_
      subst q3
      exact SetO.mk q1 (q2.trans (lUni_nil_perm hndo)) (nodup_lUni .nil) q4 q5
    have led2 : w.params.followText "set-order" = true ∨ (t1.led && to.led) = true := by
      rcases hl1 with q | q
      · exact .inl q
      · rcases hlo with r | r
        · exact .inl r
        · exact .inr (by rw [q, r]; rfl)
    unfold SetTable.road
    by_cases hfill : t1.fill = 0
    · obtain ⟨hns, hes1⟩ := empty hfill
      rw [if_neg (by simp [hfill])]
      by_cases hsame : (t1.mask == to.mask && to.dummies.isEmpty) = true
      · rw [if_pos hsame]
        dsimp only
        refine put eo _ mo hAo hpo hns ⟨Go.mask, Go.size, Go.dum, Go.rising, Go.le, ?_, Go.load⟩ led2
        show (t1.plain && to.plain) = true
        rw [G1.plain, Go.plain]; rfl
      · rw [if_neg hsame]
        dsimp only
        obtain ⟨t2, order, r1, r2, r3, r4, r5⟩ := laid_some (mask := t1.mask) (finger := t1.finger) (moves := t1.moves) (led := t1.led && to.led) (hashes := eo.map (·.1)) G1.mask (by rw [Array.size_map]; lia)
        rw [Array.size_map] at r2 r5
        have hpk := picked_perm r5
        have hsz2 : (order.filterMap (eo[·]?)).size = eo.size := by rw [← Array.length_toList, hpk.length_eq, Array.length_toList]
        refine wpAny_bind (wpAny_of_eq (a := (order.filterMap (eo[·]?), t2)) ?_ ?_)
        · rw [G1.plain, Go.plain, Bool.and_self, r1]
          show (if ((order.filterMap (eo[·]?)).size != eo.size) = true then _ else pure (order.filterMap (eo[·]?), t2)) = _
          rw [if_neg (by rw [hsz2]; simp)]
        · dsimp only
          obtain ⟨m2, hA2, hp2⟩ := A2_perm hpk hAo
          exact put _ _ m2 hA2 (hp2.trans hpo) hns (by rw [hsz2]; exact r2) (by rw [r3]; exact led2)
    · rw [if_pos (by simpa using hfill)]
      dsimp only
      refine wpAny_bind (unseen_of (s := { s with heap := h1 }) hd1 y0 fun os ms' hAs hps => ?_)
      refine wpAny_bind (wpAny_forIn_array' _ (fun rest _ s' => ∃ h2 c2 cur mr, s' = { s with heap := h2 } ∧ Heap.SameBut a s.heap h2 ∧ h2.get? a = some c2 ∧ SetO w c2 cur ∧ A2 SetE rest mr ∧ lUni cur mr = lUni ns ms' ∧ cur.length + mr.length ≤ 14) _ ?_ ?_ os _ ?_)
      · rintro e rest u s' ⟨h2, c2, cur, mr, rfl, sb2, hc2, x2, hAr, hcur, hlen⟩
        cases mr with
        | nil => exact hAr.elim
        | cons k mr =>
          obtain ⟨⟨tk, rfl⟩, hAr⟩ := hAr
          rw [List.length_cons] at hlen
          dsimp only
          refine wpAny_bind (wpAny_holding (addHashed (s := { s with heap := h2 }) hc2 x2 (by lia) fun h3 c3 sb3 hc3 x3 _ => ?_))
          have hd3 : h3.get? b = some (setObj eo epo to) := (sb3.2 b (Ne.symm hab)).trans ((sb2.2 b (Ne.symm hab)).trans hd)
          refine wpAny_bind (he _ _ hd3 ?_)
          refine wpAny_bind (wpAny_setState_of (s := { s with heap := h3 }) hd3 rfl hfo ?_)
          dsimp only
          rw [if_neg (by simp)]
          refine wpAny_pure ⟨h3, c3, lIns cur k, mr, rfl, sb2.trans sb3, hc3, x3, hAr, hcur, ?_⟩
          have := len_lIns (s := cur) (k := k)
          lia
      · rintro u s' ⟨h2, c2, cur, mr, rfl, sb2, hc2, x2, hAr, hcur, hlen⟩
        cases mr with
        | nil =>
          refine wpAny_pure (h h2 c2 sb2 hc2 ?_)
          have hcur : cur = lUni ns ms' := hcur
          rw [hcur] at x2
          exact x2.perm (lUni_perm hnd hps)
        | cons _ _ => exact hAr.elim
      · exact ⟨h1, _, ns, ms', rfl, sb1, hc1, SetO.mk hA1 hp1 hnd G1 hl1, hAs, rfl, by rw [hps.length_eq]; exact hn⟩

theorem any_set {M : Model} {v : Value} {Q : Bool → Shared → Prop} (hT : s.TypeIs v "set") (h : Q true s) : wpAny M A (Builtin.Frozenset.isAnySet v) Q E s := by
  unfold Builtin.Frozenset.isAnySet
  show wpAny _ _ (isInstance v (.type "set") >>= _) _ _ _
  refine wpAny_bind (wpAny_isInstance hT sub_set_self ?_)
  exact wpAny_pure h
theorem set_ior_ {c d : Obj} {ns ms : List Int} {a b : Addr} {Q : Value → Shared → Prop} (hc : s.heap.get? a = some c) (x : SetO w c ns) (hd : s.heap.get? b = some d) (y : SetO w d ms) (hab : a ≠ b) (hn : ns.length + ms.length ≤ 14)
    (h : ∀ h' tk c', Heap.SameBut a s.heap h' → h'.get? a = some c' → SetO w c' (lUni ns ms) → Q (.ref a) { s with heap := h', toks := tk }) :
    wpAny (model prog w) A (inplaceOp .BitOr (.ref a) (.ref b)) Q E s := by
  have hT : s.TypeIs (.ref a) "set" := by
    obtain ⟨es, ep, t, ms, rfl, _⟩ := x
    exact ⟨_, hc, rfl⟩
  have hU : s.TypeIs (.ref b) "set" := by
    obtain ⟨es, ep, t, ms, rfl, _⟩ := y
    exact ⟨_, hd, rfl⟩
  unfold inplaceOp
  refine wpAny_holding ?_
  dsimp only
  refine wpAny_bind (wpAny_typeOf hT ?_)
  refine wpAny_bind (wpAny_of_eq (a := true) ior_type ?_)
  rw [if_pos rfl]
  refine wpAny_bind (wpAny_tryMethod_slot (name := dunderI "or") hT F.slot_set_ior (wpAny_call_entry F.slot_set_ior hT F.entry_set_ior ?_ (F.args_set_ior_2 _ _)))
  unfold Builtin.«set.__ior__»
  show wpAny _ _ (Builtin.Frozenset.slot1 "__ior__" ⟨[.ref a, .ref b], []⟩ >>= _) _ _ _
  unfold Builtin.Frozenset.slot1 slotArgs
  simp only [List.isEmpty_nil, bind_assoc, Bool.not_true, Bool.false_eq_true, if_false, List.length_cons, List.length_nil, bne_self_eq_false, Nat.zero_add]
  refine wpAny_bind (wpAny_pure ?_)
  refine wpAny_bind (wpAny_pure ?_)
  dsimp only
  refine wpAny_bind (any_set hU ?_)
  rw [if_neg (by simp)]
  refine wpAny_bind (wpAny_pure ?_)
  unfold Builtin.Frozenset.updateFrom
  refine wpAny_bind (wpAny_bind (any_set hU ?_))
  rw [if_pos rfl]
  refine wpAny_bind (wpAny_pure ?_)
  unfold Builtin.Frozenset.merge
  have y0 := y
  obtain ⟨eo, epo, to, mo, rfl, _, _, _, hfo, _, _⟩ := y
  refine wpAny_bind (wpAny_setEpoch_of hd rfl hfo ?_)
  refine merge_of hc x hd y0 hab hn (fun s' Q' hd' q => ?_) fun h' c' sb hc' x' => ?_
  · unfold Builtin.Frozenset.unchanged
    refine wpAny_bind (wpAny_setEpoch_of hd' rfl hfo ?_)
    rw [if_neg (by simp)]
    exact wpAny_pure q
  · refine wpAny_pure ⟨_, rfl, by simp, ?_⟩
    exact wpAny_bind (wpAny_rule (wpAny_pure (h h' s.toks c' sb hc' x')))
end
end Mine

/-! M3s -/
namespace Mine
open PySem PySem.W PyProof.Rows PySem.Calls
section
variable {prog : Program} {w : World} {A : Around} {E : Value → Shared → Prop} {s : Shared}

theorem SetO.mem_hash {es : List (Int × Value)} {ms : List Int} (h : A2 SetE es ms) : (∀ e ∈ es, ∃ k ∈ ms, ∃ tk, e = (hashInt k, .int k tk)) ∧ ∀ k ∈ ms, ∃ e ∈ es, ∃ tk, e = (hashInt k, Value.int k tk) := by
  induction es generalizing ms with
  | nil => cases ms with
    | nil => exact ⟨by simp, by simp⟩
    | cons _ _ => exact h.elim
  | cons e es ih => cases ms with
    | nil => exact h.elim
    | cons m ms =>
      obtain ⟨⟨tk, rfl⟩, h2⟩ := h
      obtain ⟨a, b⟩ := ih h2
      refine ⟨fun e he => ?_, fun k hk => ?_⟩
      · rcases List.mem_cons.mp he with rfl | he
        · exact ⟨m, .head _, tk, rfl⟩
        · obtain ⟨k, hk, r⟩ := a e he; exact ⟨k, .tail _ hk, r⟩
      · rcases List.mem_cons.mp hk with rfl | hk
        · exact ⟨_, .head _, tk, rfl⟩
        · obtain ⟨e, he, r⟩ := b k hk; exact ⟨e, .tail _ he, r⟩

theorem SetO.setOf {c : Obj} {ns : List Int} {a : Addr} {h : Heap} (hc : h.get? a = some c) (x : SetO w c ns) (hn : ns.length ≤ 1000) : h.SetOf (intKind prog w) a (fun k => decide (k ∈ ns)) ns.length := by
  obtain ⟨es, ep, t, ms, rfl, hA, hp, hnd, hf, hr, hl⟩ := x
  obtain ⟨h1, h2⟩ := SetO.mem_hash hA
  have hsz : es.size = ns.length := by rw [← Array.length_toList, A2.length hA, hp.length_eq]
  refine ⟨_, es, ep, t, hc, ⟨rfl, rfl, rfl⟩, rfl, fun e he => ?_, fun k => ?_, by rw [hsz]; unfold scanBound; lia, hf, hsz⟩
  · obtain ⟨k, _, tk, rfl⟩ := h1 e he
    exact ⟨⟨k, intKind_is _ _ _ _, rfl⟩, rfl⟩
  · rw [decide_eq_true_eq, ← hp.mem_iff]
    constructor
    · intro hk
      obtain ⟨e, he, tk, rfl⟩ := h2 k hk
      exact ⟨_, he, intKind_is _ _ _ _⟩
    · rintro ⟨e, he, hi⟩
      obtain ⟨k', hk', tk, rfl⟩ := h1 e he
      have : k = k' := (intKind prog w).inj _ _ _ hi (intKind_is _ _ _ _)
      exact this ▸ hk'

theorem set_in {c : Obj} {ns : List Int} {a : Addr} {k : Int} {t : Tok} {Q : Value → Shared → Prop} (hc : s.heap.get? a = some c) (x : SetO w c ns) (hn : ns.length ≤ 1000) (h : Q (.bool (decide (k ∈ ns))) { s with toks := s.toks + 1 }) :
    wpAny (model prog w) A (compareOp .In (.int k t) (.ref a)) Q E s :=
  wpAny_inSet_of (knd := intKind prog w) (intKind_is _ _ _ _) rfl (x.setOf hc hn) h
theorem set_notin {c : Obj} {ns : List Int} {a : Addr} {k : Int} {t : Tok} {Q : Value → Shared → Prop} (hc : s.heap.get? a = some c) (x : SetO w c ns) (hn : ns.length ≤ 1000) (h : Q (.bool (!decide (k ∈ ns))) { s with toks := s.toks + 1 }) :
    wpAny (model prog w) A (compareOp .NotIn (.int k t) (.ref a)) Q E s :=
  wpAny_notInSet_of (knd := intKind prog w) (intKind_is _ _ _ _) rfl (x.setOf hc hn) h
theorem set_len {c : Obj} {ns : List Int} {a : Addr} {Q : Value → Shared → Prop} (hc : s.heap.get? a = some c) (x : SetO w c ns) (hn : ns.length ≤ 1000) (h : Q (.int ns.length (s.toks + 1)) { s with toks := s.toks + 1 + 1 }) :
    wpAny (model prog w) A (call (.builtin "len") [.ref a]) Q E s := by
  obtain ⟨es, ep, t, ms, rfl, hA, hp, hnd, hf, hr, hl⟩ := x
  have hsz : es.size = ns.length := by rw [← Array.length_toList, A2.length hA, hp.length_eq]
  exact call_len_set hc ⟨rfl, rfl, rfl⟩ rfl hf (by rw [hsz]; lia) (by rw [hsz]; exact h)

theorem set_new {Q : Value → Shared → Prop} (h : ∀ c, SetO w c [] → c.isFreed = false → Q (.ref s.heap.objs.size) { s with heap := s.heap.push c }) :
    wpAny (model prog w) A (call (.type "set") []) Q E s := by
  exact set_new_ h
theorem set_list {l : Addr} {vs : List Value} {ns : List Int} {Q : Value → Shared → Prop} (hh : A.handled = none) (hl : s.heap.IsList l vs.toArray) (hi : A2 (fun v i => ∃ t, v = Value.int i t) vs ns) (hn : ns.length ≤ 14)
    (h : ∀ h' tk c, (∀ b o, s.heap.get? b = some o → h'.get? b = some o) → s.heap.objs.size < h'.objs.size → h'.get? s.heap.objs.size = some c → SetO w c (lDed ns) → Q (.ref s.heap.objs.size) { s with heap := h', toks := tk }) :
    wpAny (model prog w) A (call (.type "set") [.ref l]) Q E s := by
  exact set_list_ hh hl hi hn h
theorem set_add {c : Obj} {ns : List Int} {a : Addr} {k : Int} {t : Tok} {Q : Value → Shared → Prop} (hc : s.heap.get? a = some c) (x : SetO w c ns) (hn : ns.length ≤ 13)
    (h : ∀ h' tk c', Heap.SameBut a s.heap h' → h'.get? a = some c' → SetO w c' (lIns ns k) → Q .none { s with heap := h', toks := tk }) :
    wpAny (model prog w) A (call (.builtin "set.add") [.ref a, .int k t]) Q E s := by
  exact set_add_ hc x hn h
theorem set_ior {c d : Obj} {ns ms : List Int} {a b : Addr} {Q : Value → Shared → Prop} (hc : s.heap.get? a = some c) (x : SetO w c ns) (hd : s.heap.get? b = some d) (y : SetO w d ms) (hab : a ≠ b) (hn : ns.length + ms.length ≤ 14)
    (h : ∀ h' tk c', Heap.SameBut a s.heap h' → h'.get? a = some c' → SetO w c' (lUni ns ms) → Q (.ref a) { s with heap := h', toks := tk }) :
    wpAny (model prog w) A (inplaceOp .BitOr (.ref a) (.ref b)) Q E s := by
  exact set_ior_ hc x hd y hab hn h

theorem set_iter {c : Obj} {ns : List Int} {a : Addr} {Q : Value → Shared → Prop} (hh : A.handled = none) (hc : s.heap.get? a = some c) (x : SetO w c ns) (hn : ns.length ≤ 1000)
    (h : ∀ ms I h₁ tk St, List.Perm ms ns → s.heap.get? I = none → (∀ b o, s.heap.get? b = some o → h₁.get? b = some o) → St 0 h₁ → SetDr prog w A I a c ms St → Q (.ref I) { s with heap := h₁, toks := tk }) :
    wpAny (model prog w) A (pyIter (.ref a)) Q E s := by
  exact set_iter_ hh hc x hn h
end
end Mine

/-! M3b -/
namespace Mine
open PySem PySem.W PyProof.Rows PySem.Calls

noncomputable def toPy : D → PyData
  | .a (.int i) => .int i
  | .t as => .tuple (as.map fun a => match a with | .int i => .int i | _ => .none)
  | _ => .none
noncomputable def tpy (a : At) : PyData := match a with | .int i => .int i | _ => .none

theorem reads_ints {h : Heap} : ∀ {vs : List Value} {as : List At}, A2 AR vs as → (∀ a ∈ as, ∃ i, a = At.int i) → ∃ q, ReadsAll h vs (as.map tpy) q
  | [], [], _, _ => ⟨_, .nil⟩
  | v :: vs, a :: as, hA, hi => by
    obtain ⟨i, rfl⟩ := hi _ (.head _)
    obtain ⟨t, rfl⟩ := hA.1
    obtain ⟨q, hq⟩ := reads_ints (h := h) hA.2 fun a ha => hi a (.tail _ ha)
    exact ⟨_, .cons (.int i t) hq⟩
theorem reads_D {h : Heap} {v : Value} {d : D} (r : DR h v d) (hd : DI d) : ∃ q, Reads h v (toPy d) q := by
  cases d with
  | a x => cases x with
    | int i => obtain ⟨t, rfl⟩ := r; exact ⟨_, .int i t⟩
    | _ => exact hd.elim
  | t as =>
    obtain ⟨a, vs, n, rfl, ht, hA⟩ := r
    obtain ⟨q, hq⟩ := reads_ints (h := h) hA hd
    exact ⟨_, reads_tuple_at ht rfl rfl hq⟩
theorem reads_Ds {h : Heap} : ∀ {vs : List Value} {ds : List D}, A2 (DR h) vs ds → (∀ d ∈ ds, DI d) → ∃ q, ReadsAll h vs (ds.map toPy) q
  | [], [], _, _ => ⟨_, .nil⟩
  | v :: vs, d :: ds, hA, hi => by
    obtain ⟨p, hp⟩ := reads_D hA.1 (hi _ (.head _))
    obtain ⟨q, hq⟩ := reads_Ds hA.2 fun a ha => hi a (.tail _ ha)
    exact ⟨_, .cons hp hq⟩
theorem eqv_tpy : ∀ (as : List At), (∀ a ∈ as, ∃ i, a = At.int i) → PyData.eqvAll (as.map tpy) (as.map tpy) = true
  | [], _ => rfl
  | a :: as, h => by
    obtain ⟨i, rfl⟩ := h _ (.head _)
    simp [tpy, PyData.eqvAll, PyData.eqv, eqv_tpy as fun a ha => h a (.tail _ ha)]
theorem eqv_D {d : D} (hd : DI d) : PyData.eqv (toPy d) (toPy d) = true := by
  cases d with
  | a x => cases x with
    | int i => simp [toPy, PyData.eqv]
    | _ => exact hd.elim
  | t as => simp only [toPy, PyData.eqv]; exact eqv_tpy as hd
theorem eqv_Ds : ∀ (ds : List D), (∀ d ∈ ds, DI d) → PyData.eqvAll (ds.map toPy) (ds.map toPy) = true
  | [], _ => rfl
  | d :: ds, h => by simp [PyData.eqvAll, eqv_D (h _ (.head _)), eqv_Ds ds fun a ha => h a (.tail _ ha)]
theorem lay_tpy : ∀ (as : List At), PyData.canLayAll0 (as.map tpy) = true ∧ PyData.depthAll (as.map tpy) = 0
  | [] => by simp [PyData.canLayAll0, PyData.depthAll]
  | a :: as => by
    have h := lay_tpy as
    cases a <;> simp [tpy, PyData.canLayAll0, PyData.depthAll, PyData.canLay0, PyData.depth, h.1, h.2]
theorem lay_D (d : D) : (toPy d).canLay0 = true ∧ (toPy d).depth ≤ 1 := by
  cases d with
  | a x => cases x <;> simp [toPy, PyData.canLay0, PyData.depth]
  | t as =>
    have h := lay_tpy as
    simp only [toPy, PyData.canLay0, PyData.depth]
    exact ⟨h.1, by have := h.2; show PyData.depthAll (as.map tpy) + 1 ≤ 1; lia⟩
theorem lay_Ds : ∀ (ds : List D), PyData.canLayAll0 (ds.map toPy) = true ∧ PyData.depthAll (ds.map toPy) ≤ 1
  | [] => by simp [PyData.canLayAll0, PyData.depthAll]
  | d :: ds => by
    have h := lay_Ds ds
    have k := lay_D d
    simp only [List.map_cons, PyData.canLayAll0, PyData.depthAll, h.1, k.1, Bool.and_self, true_and]
    have := h.2; have := k.2; lia

section
variable {prog : Program} {w : World} {A : Around} {E : Value → Shared → Prop} {s : Shared} {base : Heap} {ρ : List Addr} {H : Hp}

theorem ne_same {a b : Addr} {vs us : List Value} {m n : Nat} {ds : List D} {Q : Value → Shared → Prop} (ha : IsL s.heap a vs.toArray m) (hb : IsL s.heap b us.toArray n) (hv : A2 (DR s.heap) vs ds) (hu : A2 (DR s.heap) us ds) (hd : ∀ d ∈ ds, DI d)
    (hA : A.units + 64 < cLine) (h : Q (.bool false) s) : wpAny (model prog w) A (compareOp .NotEq (.ref a) (.ref b)) Q E s := by
  obtain ⟨p, hp⟩ := reads_Ds hv hd
  obtain ⟨q, hq⟩ := reads_Ds hu hd
  have l := lay_Ds ds
  have sh : SeqAt.shaped (.list (ds.map toPy)) = true := by
    unfold SeqAt.shaped
    simp only [PyData.canLay0, PyData.depth, l.1, Bool.true_and]
    exact decide_eq_true (Nat.le_trans (Nat.succ_le_succ l.2) (by decide))
  refine ne_dataH (reads_list_at ha rfl rfl (by simpa using hp)) (reads_list_at hb rfl rfl (by simpa using hq)) sh sh hA ?_
  have e : PyData.eqv (.list (ds.map toPy)) (.list (ds.map toPy)) = true := by simp only [PyData.eqv]; exact eqv_Ds ds hd
  rw [e]; exact h

theorem snd_cmp {op : CmpOp} {a b : V} {ca cb : Value} {Q : Bool → Prop} (hb : cmpop op a b H Q) (x : HR w base ρ H s.heap) (ra : VR s.heap ρ ca a) (rb : VR s.heap ρ cb b) (hA : A.units + 64 < cLine) :
    wpAny (model prog w) A (compareOp op ca cb) (fun c s' => ∃ b tk, c = .bool b ∧ s' = { s with toks := tk } ∧ Q b) E s := by
  unfold cmpop at hb
  split at hb
  · rename_i i ea
    obtain rfl := asI_some ea
    split at hb
    · rename_i j eb
      obtain rfl := asI_some eb
      obtain ⟨t, rfl⟩ := ra; obtain ⟨u, rfl⟩ := rb
      unfold cmpI at hb
      split at hb
      · exact eq_int ⟨_, s.toks, rfl, rfl, hb⟩
      · exact ne_int ⟨_, s.toks, rfl, rfl, hb⟩
      · exact lt_int ⟨_, s.toks, rfl, rfl, hb⟩
      · exact le_int ⟨_, s.toks, rfl, rfl, hb⟩
      · exact gt_int ⟨_, s.toks, rfl, rfl, hb⟩
      · exact ge_int ⟨_, s.toks, rfl, rfl, hb⟩
      · exact hb.elim
    · replace hb := onR_inv hb
      obtain ⟨j, rfl, hb⟩ := hb
      obtain ⟨t, rfl⟩ := ra; obtain ⟨l2, h2, rfl⟩ := rb
      split at hb
      · split at hb
        · rename_i ns e2
          obtain ⟨c, hc, hS⟩ := x.stAt e2 h2
          exact set_in hc hS hb.1 ⟨_, _, rfl, rfl, hb.2⟩
        · exact hb.elim
      · split at hb
        · rename_i ns e2
          obtain ⟨c, hc, hS⟩ := x.stAt e2 h2
          exact set_notin hc hS hb.1 ⟨_, _, rfl, rfl, hb.2⟩
        · exact hb.elim
      · exact hb.elim
  · split at hb
    · rename_i i ea
      obtain rfl := asBo_some ea
      replace hb := onBo_inv hb
      obtain ⟨j, rfl, hb⟩ := hb
      cases ra; cases rb
      split at hb
      · exact eq_bool ⟨_, s.toks, rfl, rfl, hb⟩
      · exact ne_bool ⟨_, s.toks, rfl, rfl, hb⟩
      · exact hb.elim
    · split at hb
      · rename_i i ea
        obtain rfl := asS_some ea
        replace hb := onS_inv hb
        obtain ⟨j, rfl, hb⟩ := hb
        obtain ⟨t, rfl⟩ := ra; obtain ⟨u, rfl⟩ := rb
        split at hb
        · exact PyProof.Rows.eq_str ⟨_, s.toks, rfl, rfl, hb⟩
        · exact hb.elim
      · replace hb := onR_inv hb
        obtain ⟨i, rfl, hb⟩ := hb
        replace hb := onR_inv hb
        obtain ⟨j, rfl, hb⟩ := hb
        obtain ⟨l1, h1, rfl⟩ := ra; obtain ⟨l2, h2, rfl⟩ := rb
        split at hb
        · unfold neL at hb
          split at hb
          · rename_i xs ys e1 e2
            obtain ⟨rfl, hd, hq⟩ := hb
            obtain ⟨vs, n, hl, hv⟩ := x.lsAt e1 h1
            obtain ⟨us, k, hm, hu⟩ := x.lsAt e2 h2
            exact ne_same hl hm hv hu hd hA ⟨_, s.toks, rfl, rfl, hq⟩
          · exact hb.elim
        · exact hb.elim

theorem seqIndex_nn {k : Int} {n : Nat} (h0 : 0 ≤ k) (h1 : k.toNat < n) : seqIndex? k n = some k.toNat := by
  unfold seqIndex?
  have : ¬ k < 0 := by lia
  simp only [this, if_false]
  rw [if_pos]
  simp only [Bool.and_eq_true, decide_eq_true_eq]
  lia

theorem snd_getIt {o k : V} {co ck : Value} {Q : V → Prop} (hb : getIt o k H Q) (x : HR w base ρ H s.heap) (ro : VR s.heap ρ co o) (rk : VR s.heap ρ ck k) :
    wpAny (model prog w) A (getItem co ck) (fun c s' => s' = s ∧ ∃ v, VR s.heap ρ c v ∧ Q v) E s := by
  unfold getIt at hb
  split at hb
  · rename_i xs eo
    obtain rfl := asT_some eo
    replace hb := onI_inv hb
    obtain ⟨k, rfl, hb⟩ := hb
    obtain ⟨a, vs, n, rfl, ht, hA⟩ := ro; obtain ⟨t, rfl⟩ := rk
    obtain ⟨h0, h1, hb⟩ := hb
    split at hb
    · rename_i y e
      obtain ⟨v, hv, r⟩ := A2.getA hA e
      have hk : k.toNat < vs.toArray.size := (Array.getElem?_eq_some_iff.mp hv).1
      exact P.getItem_tuple ht (by lia) (by lia) (seqIndex_nn h0 hk) hv ⟨rfl, .d (.a y), r, hb⟩
    · exact hb.elim
  · replace hb := onR_inv hb
    obtain ⟨i, rfl, hb⟩ := hb
    replace hb := onI_inv hb
    obtain ⟨k, rfl, hb⟩ := hb
    obtain ⟨a, ha, rfl⟩ := ro; obtain ⟨t, rfl⟩ := rk
    split at hb
    · rename_i xs e1
      obtain ⟨h0, h1, hb⟩ := hb
      split at hb
      · rename_i y e
        obtain ⟨vs, n, hl, hv⟩ := x.lsAt e1 ha
        obtain ⟨v, hv, r⟩ := A2.getA hv e
        exact wpAny_getItem_list hl.isList h0 (by lia) hv ⟨rfl, .d y, r, hb⟩
      · exact hb.elim
    · exact hb.elim

theorem snd_setIt {o k v : V} {co ck cv : Value} {Q : Hp → Prop} (hb : setIt o k v H Q) (x : HR w base ρ H s.heap) (ro : VR s.heap ρ co o) (rk : VR s.heap ρ ck k) (rv : VR s.heap ρ cv v) :
    wpAny (model prog w) A (setItem co ck cv) (fun _ s' => ∃ h' H', s' = { s with heap := h' } ∧ Ext ρ s.heap ρ h' ∧ HR w base ρ H' h' ∧ Q H') E s := by
  replace hb := onR_inv hb
  obtain ⟨i, rfl, hb⟩ := hb
  replace hb := onI_inv hb
  obtain ⟨k, rfl, hb⟩ := hb
  replace hb := onD_inv hb
  obtain ⟨y, rfl, hb⟩ := hb
  · obtain ⟨a, ha, rfl⟩ := ro; obtain ⟨t, rfl⟩ := rk
    split at hb
    · rename_i xs e1
      obtain ⟨h0, h1, h2, hq⟩ := hb
      obtain ⟨vs, n, hl, hv⟩ := x.lsAt e1 ha
      have hs : Heap.SameBut a s.heap (s.heap.update a (Obj.mapSeq (·.setIfInBounds k.toNat cv))) := Heap.SameBut.update ..
      have e : Obj.mapSeq (·.setIfInBounds k.toNat cv) (W.listOf vs.toArray n) = W.listOf (List.toArray (vs.set k.toNat cv)) n := by
        simp [Obj.mapSeq]
      have hg : (s.heap.update a (Obj.mapSeq (·.setIfInBounds k.toNat cv))).get? a = some (W.listOf (List.toArray (vs.set k.toNat cv)) n) := by
        rw [Heap.get?_update_self _ hl (by rw [e]; rfl), e]
      refine ki_setAt hl h0 (by lia) (by rw [A2.length_toArray hv]; exact h2) ⟨_, _, rfl, Ext.upd ha hs, x.upd (o := .list (xs.set k.toNat y)) ha hs hg ⟨_, n, rfl, A2.set (R := DR s.heap) rv hv k.toNat⟩, hq⟩
    · exact hb.elim
end
end Mine

/-! M3c -/
namespace Mine
open PySem PySem.W PyProof.Rows PySem.Calls
section
variable {prog : Program} {w : World} {A : Around} {E : Value → Shared → Prop} {s : Shared} {base : Heap} {ρ : List Addr} {H : Hp}

theorem sliceApplied_zero {sl : Addr} {u : Tok} {Q : Int × Int × Nat → Shared → Prop} (hs : s.heap.IsSliceOf sl (.int 1 u) .none .none) (h : Q (0, 1, 0) s) :
    wpAny (model prog w) A (Builtin.Slice.sliceApplied (.ref sl) (pure ((0 : Nat) : Int))) Q E s := by
  obtain ⟨os, hos, hcs, hds⟩ := id hs
  unfold Builtin.Slice.sliceApplied Builtin.Slice.sliceFields
  refine wpAny_bind (wpAny_bind (wpAny_field hos hds (x := .int 1 u) rfl (wpAny_bind (wpAny_field hos hds (x := .none) rfl (wpAny_bind (wpAny_field hos hds (x := .none) rfl (wpAny_pure ?_)))))))
  refine wpAny_bind (slicePart_none ?_)
  show wpAny _ _ (if ((1 : Int) == 0) = true then _ else _) _ _ s
  rw [if_neg (by decide)]
  refine wpAny_bind (slicePart_int (wpAny_bind (slicePart_none (wpAny_bind (wpAny_pure ?_)))))
  show wpAny _ _ (match Builtin.Slice.sliceAdjust (some (1 : Int)) none 1 ((0 : Nat) : Int) with | (lo, hi) => pure (lo, (1 : Int), Builtin.Slice.slicePlaces lo hi 1)) _ _ s
  have e : Builtin.Slice.sliceAdjust (some (1 : Int)) none 1 ((0 : Nat) : Int) = (0, 0) := by decide +kernel
  rw [e]
  exact wpAny_pure h

theorem getItem_tuple_zero {t sl : Addr} {items : Array Value} {u : Tok} {Q : Value → Shared → Prop} (ht : IsTup s.heap t items) (hs : s.heap.IsSliceOf sl (.int 1 u) .none .none) (ha : items = #[])
    (h : Q (.ref t) s) : wpAny (model prog w) A (getItem (.ref t) (.ref sl)) Q E s := by
  subst ha
  obtain ⟨os, hos, hcs, hds⟩ := id hs
  have hTs : s.TypeIs (.ref sl) "slice" := ⟨os, hos, hcs⟩
  unfold getItem
  try with_reducible refine wpAny_holding ?_
  first | refine wpAny_bind (wpAny_pure ?_) | skip
  refine wpAny_bind (wpAny_sequenceKey ht.typeIs (by decide) ?_)
  refine wpAny_bind (wpAny_callSpecial?_slot (name := Str.ofString "__getitem__") ht.typeIs slot_tuple_getitem
    (wpAny_call_entry slot_tuple_getitem ht.typeIs entry_tuple_getitem ?_ (args_tuple_getitem _ _)))
  show wpAny _ _ (Builtin.Tuple.tupleItemsOf (.ref t) >>= _) _ _ s
  refine wpAny_bind (tupleItemsOf_ ht ?_)
  refine wpAny_bind (wpAny_typeOf hTs ?_)
  rw [if_pos (by decide)]
  refine wpAny_bind (sliceApplied_zero hs ?_)
  show wpAny _ _ (if ((0 : Int) == 0 && (1 : Int) == 1 && 0 == (#[] : Array Value).size) = true then _ else _) _ _ s
  rw [if_pos (by decide)]
  unfold Builtin.Tuple.tupleIsExact
  refine wpAny_bind (wpAny_bind (wpAny_typeOf ht.typeIs (wpAny_pure ?_)))
  rw [if_pos (by decide)]
  exact wpAny_bind (wpAny_rule (wpAny_pure ⟨_, rfl, wpAny_pure h⟩))

noncomputable def PR (cl : Value) (l : Option Int) : Prop := match l with | some k => ∃ t, cl = Value.int k t | .none => cl = .none

theorem snd_getSl {o : V} {lo hi : Option Int} {co cl cu : Value} {Q : V → Hp → Prop} {sl : Addr} (hb : getSl o lo hi H Q) (x : HR w base ρ H s.heap) (ro : VR s.heap ρ co o) (rl : PR cl lo) (ru : PR cu hi) (hsl : s.heap.IsSliceOf sl cl cu .none)
    {value : Expr} {lower upper : Option Expr} {p : Pos} :
    wpAny (model prog w) A (subscriptTail value (.Slice lower upper none p) co (.ref sl)) (Post w base ρ s Q) E s := by
  unfold getSl at hb
  split at hb
  · rename_i k
    split at hb
    case h_1 => exact hb.elim
    split at hb
    · rename_i xs eo
      obtain rfl := asT_some eo
      obtain ⟨a, vs, n, rfl, ht, hA⟩ := ro
      obtain ⟨rfl, hsz, hq⟩ := hb
      obtain ⟨t, rfl⟩ := rl
      cases ru
      have ht' : IsTup s.heap a vs.toArray := ⟨_, ht, rfl, _, rfl⟩
      refine tail_any ht'.typeIs slot_tuple_getitem.lookup ?_ (by rfl)
      by_cases h1 : 1 ≤ vs.toArray.size
      · refine getItem_tuple_from ht' hsl (a := 1) (Nat.le_refl _) h1 ?_ (by rw [A2.length_toArray hA, sizeLine_eq]; lia)
        exact Post.tup s.toks x (Ext.refl ..) (A2.drop hA 1) hq
      · have e : vs = [] := by
          cases vs with
          | nil => rfl
          | cons _ _ => simp at h1
        subst e
        cases xs with
        | nil => exact getItem_tuple_zero ht' hsl rfl (Post.here (v := .tup []) x ⟨a, [], n, rfl, ht, trivial⟩ hq)
        | cons _ _ => exact hA.elim
    · replace hb := onR_inv hb
      obtain ⟨i, rfl, hb⟩ := hb
      obtain ⟨a, ha, rfl⟩ := ro
      obtain ⟨t, rfl⟩ := rl
      cases ru
      split at hb
      · rename_i xs e1
        obtain ⟨hsz, h0, hq⟩ := hb
        obtain ⟨vs, n, hl, hv⟩ := x.lsAt e1 ha
        refine tail_any hl.isList.typeIs slot_list_getitem.lookup ?_ (by rfl)
        refine wpAny_getItem_list_slice hl.isList hsl (.int k t) .none .none (by simp) ?_ (by rw [A2.length_toArray hv, sizeLine_eq]; lia)
        have e : slicePick vs.toArray (some k) none none = (vs.drop k.toNat).toArray := by
          have := slicePick_from' vs.toArray k.toNat
          rw [show ((k.toNat : Nat) : Int) = k by lia] at this
          rw [this]
        rw [e]
        exact Post.list s.toks x (Ext.refl ..) (A2.drop hv _) hq
      · exact hb.elim
  · replace hb := onO_inv hb
    obtain ⟨k, rfl, hb⟩ := hb
    replace hb := onR_inv hb
    obtain ⟨i, rfl, hb⟩ := hb
    obtain ⟨a, ha, rfl⟩ := ro
    obtain ⟨t, rfl⟩ := ru
    cases rl
    split at hb
    · rename_i xs e1
      obtain ⟨hsz, h0, hq⟩ := hb
      obtain ⟨vs, n, hl, hv⟩ := x.lsAt e1 ha
      refine tail_any hl.isList.typeIs slot_list_getitem.lookup ?_ (by rfl)
      refine wpAny_getItem_list_slice hl.isList hsl .none (.int k t) .none (by simp) ?_ (by rw [A2.length_toArray hv, sizeLine_eq]; lia)
      have e : slicePick vs.toArray none (some k) none = (vs.take k.toNat).toArray := by
        have := slicePick_upto' vs.toArray k.toNat
        rw [show ((k.toNat : Nat) : Int) = k by lia] at this
        rw [this]
      rw [e]
      exact Post.list s.toks x (Ext.refl ..) (A2.take hv _) hq
    · exact hb.elim
end
end Mine

/-! M3d -/
namespace Mine
open PySem PySem.W PyProof.Rows PySem.Calls

theorem bb_abs : bootBuiltins "abs" = some (.builtin "abs") := by decide +kernel
theorem bb_len : bootBuiltins "len" = some (.builtin "len") := by decide +kernel
theorem bb_int : bootBuiltins "int" = some (.type "int") := by decide +kernel
theorem bb_isinstance : bootBuiltins "isinstance" = some (.builtin "isinstance") := by decide +kernel
theorem bb_range : bootBuiltins "range" = some (.type "range") := by decide +kernel
theorem bb_list : bootBuiltins "list" = some (.type "list") := by decide +kernel
theorem bb_tuple : bootBuiltins "tuple" = some (.type "tuple") := by decide +kernel
theorem bb_set : bootBuiltins "set" = some (.type "set") := by decide +kernel
theorem bb_bool : bootBuiltins "bool" = some (.type "bool") := by decide +kernel

theorem dAtoms_A2 {h : Heap} : ∀ {vs : List Value} {xs : List D} {as : List At}, A2 (DR h) vs xs → dAtoms xs = some as → A2 AR vs as
  | [], [], as, _, e => by simp [dAtoms] at e; subst e; trivial
  | v :: vs, d :: xs, as, hA, e => by
    cases d with
    | t _ => simp [dAtoms] at e
    | a x =>
      simp only [dAtoms, Option.map_eq_some_iff] at e
      obtain ⟨bs, hb, rfl⟩ := e
      exact ⟨hA.1, dAtoms_A2 hA.2 hb⟩
theorem dInts_A2 {h : Heap} : ∀ {vs : List Value} {xs : List D} {as : List Int}, A2 (DR h) vs xs → dInts xs = some as → A2 (fun v i => ∃ t, v = Value.int i t) vs as
  | [], [], as, _, e => by simp [dInts] at e; subst e; trivial
  | v :: vs, d :: xs, as, hA, e => by
    cases d with
    | t _ => simp [dInts] at e
    | a x =>
      cases x with
      | int i =>
        simp only [dInts, Option.map_eq_some_iff] at e
        obtain ⟨bs, hb, rfl⟩ := e
        exact ⟨hA.1, dInts_A2 hA.2 hb⟩
      | _ => simp [dInts] at e
theorem dInts_len : ∀ {xs : List D} {as : List Int}, dInts xs = some as → as.length = xs.length
  | [], as, e => by simp [dInts] at e; subst e; rfl
  | d :: xs, as, e => by
    cases d with
    | t _ => simp [dInts] at e
    | a x =>
      cases x with
      | int i =>
        simp only [dInts, Option.map_eq_some_iff] at e
        obtain ⟨bs, hb, rfl⟩ := e
        simp [dInts_len hb]
      | _ => simp [dInts] at e

theorem range_size1 (a b : Int) : Builtin.Range.rangeSize a b 1 = ((b - a).toNat : Int) := by
  unfold Builtin.Range.rangeSize
  rw [if_pos (by decide)]
  split
  · rw [Int.ediv_one]; lia
  · lia
theorem range_sizeM (a b : Int) : Builtin.Range.rangeSize a b (-1) = ((a - b).toNat : Int) := by
  unfold Builtin.Range.rangeSize
  rw [if_neg (by decide)]
  split
  · rw [show (- -1 : Int) = 1 from rfl, Int.ediv_one]; lia
  · lia
theorem fits_long {x : Int} (h : x.natAbs ≤ 10000) : Builtin.Range.rangeFitsLong x = true := by
  unfold Builtin.Range.rangeFitsLong
  simp only [Bool.and_eq_true, decide_eq_true_eq]
  lia
theorem toNat_le_abs (d : Int) : d.toNat ≤ d.natAbs := by lia
theorem toNat_fits {a b : Int} (ha : a.natAbs ≤ 1000) (hb : b.natAbs ≤ 1000) : (((b - a).toNat : Nat) : Int).natAbs ≤ 10000 := by
  rw [Int.natAbs_natCast]
  exact Nat.le_trans (toNat_le_abs _) (Nat.le_trans (Int.natAbs_sub_le _ _) (Nat.le_trans (Nat.add_le_add hb ha) (by decide)))
theorem range_small {a b c : Int} (ha : a.natAbs ≤ 1000) (hb : b.natAbs ≤ 1000) (hc : c = 1 ∨ c = -1) : Builtin.Range.small a b c = true := by
  unfold Builtin.Range.small
  rcases hc with rfl | rfl
  · rw [range_size1, fits_long (x := a) (by lia), fits_long (x := b) (by lia), fits_long (x := 1) (by decide), fits_long (x := ((b - a).toNat : Int)) (toNat_fits ha hb), if_pos (by decide), fits_long (x := b + (1 - 1)) (by lia)]
    simp
  · rw [range_sizeM, fits_long (x := a) (by lia), fits_long (x := b) (by lia), fits_long (x := -1) (by decide), fits_long (x := ((a - b).toNat : Int)) (toNat_fits hb ha), if_neg (by decide), fits_long (x := b + (-1 + 1)) (by lia)]
    simp

theorem range_items {h : Heap} {a : Int} {n : Nat} {acc : Array Value} (hacc : ItemsOf (fun i v => ∃ t, v = .int (a + i * 1) t) acc n) :
    A2 (DR h) acc.toList ((List.range n).map fun (k : Nat) => D.a (.int (a + (k : Int)))) := by
  obtain ⟨hs, hi⟩ := hacc
  have key : ∀ (l : List Value) (j : Nat), (∀ (k : Nat) (v : Value), l[k]? = some v → ∃ t, v = Value.int (a + ((j + k : Nat) : Int) * 1) t) → A2 (DR h) l ((List.range' j l.length).map fun (k : Nat) => D.a (.int (a + (k : Int)))) := by
    intro l
    induction l with
    | nil => intro j _; trivial
    | cons v l ih =>
      intro j hl
      rw [List.length_cons, List.range'_succ, List.map_cons]
      refine ⟨?_, ih (j + 1) fun k u e => ?_⟩
      · obtain ⟨t, e⟩ := hl 0 v rfl
        exact ⟨t, by rw [e]; congr 1; simp⟩
      · obtain ⟨t, e'⟩ := hl (k + 1) u (by simpa using e)
        exact ⟨t, by rw [e']; congr 1; push_cast; lia⟩
  have := key acc.toList 0 fun k v e => by
    have := hi k v (by rw [← Array.getElem?_toList]; exact e)
    simpa using this
  rw [Array.length_toList, hs] at this
  rw [List.range_eq_range']
  exact this

section
variable {prog : Program} {w : World} {A : Around} {E : Value → Shared → Prop} {s : Shared} {base : Heap} {ρ : List Addr} {H : Hp}

theorem Post.alloc2 {Q : V → Hp → Prop} {h' : Heap} {tk : Nat} {c : Obj} {o : O} (x : HR w base ρ H s.heap) (k : ∀ b o, s.heap.get? b = some o → h'.get? b = some o) (hc : h'.get? s.heap.objs.size = some c) (ho : OR w s.heap c o)
    (q : Q (.ref H.length) (H ++ [o])) : Post w base ρ s Q (.ref s.heap.objs.size) { s with heap := h', toks := tk } :=
  ⟨_, tk, _, .ref H.length, _, rfl, Ext.alloc2 ρ k, x.alloc2 k hc ho, ⟨_, by rw [List.getElem?_append_right (by rw [x.len]; exact Nat.le_refl _), x.len]; simp, rfl⟩, q⟩
theorem Post.range {Q : V → Hp → Prop} {a b c : Int} {t u v : Tok} {tk : Nat} (x : HR w base ρ H s.heap) (q : Q (.range a b c) H) :
    Post w base ρ s Q (.ref s.heap.objs.size) { s with heap := s.heap.push { cls := .type "range", data := .fields #[.int a t, .int b u, .int c v] }, toks := tk } :=
  ⟨_, tk, ρ, .range a b c, _, rfl, Ext.push .., x.push _, ⟨_, t, u, v, rfl, IsRange.new ..⟩, q⟩

theorem snd_callB {f : Str} {vs : List V} {cs : List Value} {cf : Value} {Q : V → Hp → Prop} (hv : bootBuiltins f = some cf) (hb : callB f vs H Q) (x : HR w base ρ H s.heap) (r : A2 (VR s.heap ρ) cs vs) (hh : A.handled = none) :
    wpAny (model prog w) A (call cf cs) (Post w base ρ s Q) E s := by
  unfold callB at hb
  split at hb
  · rename_i e; subst e
    rw [bb_abs] at hv; cases hv
    replace hb := on1_inv hb
    obtain ⟨v, rfl, hb⟩ := hb
    replace hb := onI_inv hb
    obtain ⟨i, rfl, hb⟩ := hb
    obtain ⟨c, rfl, t, rfl⟩ := r.one
    refine call_abs_int fun u tk => ?_
    have e : (if i < 0 then -i else i) = ((i.natAbs : Nat) : Int) := by split <;> lia
    rw [e]
    exact Post.int x _ hb
  split at hb
  · rename_i e; subst e
    rw [bb_len] at hv; cases hv
    replace hb := on1_inv hb
    obtain ⟨v, rfl, hb⟩ := hb
    replace r := r.one
    obtain ⟨c, rfl, r⟩ := r
    split at hb
    · rename_i xs ev
      obtain rfl := asT_some ev
      obtain ⟨a, us, n, rfl, ht, hA⟩ := r
      refine P.len_tuple ht (by rw [A2.length_toArray hA]; have := hb.1; lia) ?_
      rw [A2.length_toArray hA]
      exact Post.int x _ hb.2
    · replace hb := onR_inv hb
      obtain ⟨i, rfl, hb⟩ := hb
      obtain ⟨a, ha, rfl⟩ := r
      split at hb
      · rename_i xs e
        obtain ⟨us, n, hl, hA⟩ := x.lsAt e ha
        refine call_len_list hl.isList (by rw [A2.length_toArray hA]; have := hb.1; lia) ?_
        rw [A2.length_toArray hA]
        exact Post.int x _ hb.2
      · split at hb
        · rename_i ns e
          obtain ⟨c, hc, hS⟩ := x.stAt e ha
          exact set_len hc hS hb.1 (Post.int x _ hb.2)
        · exact hb.elim
  split at hb
  · rename_i e; subst e
    rw [bb_int] at hv; cases hv
    replace hb := on1_inv hb
    obtain ⟨v, rfl, hb⟩ := hb
    replace hb := onI_inv hb
    obtain ⟨i, rfl, hb⟩ := hb
    obtain ⟨c, rfl, t, rfl⟩ := r.one
    exact call_int_int (Post.here (v := .int i) x ⟨t, rfl⟩ hb)
  split at hb
  · rename_i e; subst e
    rw [bb_isinstance] at hv; cases hv
    cases vs with
    | nil => exact hb.elim
    | cons v r0 =>
      replace hb := on1_inv hb
      obtain ⟨v2, rfl, hb⟩ := hb
      replace hb := onBo_inv hb
      obtain ⟨b, rfl, hb⟩ := hb
      replace hb := onO_inv hb
      obtain ⟨n, e2, hb⟩ := hb
      obtain rfl := asTy_some e2
      replace r := r.uncons
      obtain ⟨c, cs, rfl, r1, r⟩ := r
      obtain ⟨d, rfl, r2⟩ := r.one
      cases r1; cases r2
      obtain ⟨rfl, hq⟩ := hb
      exact call_isinstance_yes (PyProof.Rows.typeIs_bool _ _) meta_bool sub_bool_bool (Post.bool x hq)
  split at hb
  · rename_i e; subst e
    rw [bb_range] at hv; cases hv
    cases vs with
    | nil => exact hb.elim
    | cons v r0 =>
      replace hb := onI_inv hb
      obtain ⟨a, rfl, hb⟩ := hb
      replace r := r.uncons
      obtain ⟨c, cs, rfl, ⟨t, rfl⟩, r⟩ := r
      cases r0 with
      | nil =>
        obtain rfl := r.unnil
        exact call_range_1 (Post.range x hb)
      | cons v2 r0 =>
        replace hb := onI_inv hb
        obtain ⟨b, rfl, hb⟩ := hb
        replace r := r.uncons
        obtain ⟨d, cs, rfl, ⟨u, rfl⟩, r⟩ := r
        cases r0 with
        | nil =>
          obtain rfl := r.unnil
          exact call_range_2 (Post.range x hb)
        | cons v3 r0 =>
          replace hb := on1_inv hb
          obtain ⟨v4, e4, hb⟩ := hb
          rw [e4] at r
          replace hb := onI_inv hb
          obtain ⟨c3, rfl, hb⟩ := hb
          obtain ⟨e, rfl, v, rfl⟩ := r.one
          obtain ⟨rfl, hq⟩ := hb
          exact call_range_3 (by decide) (Post.range x hq) (.inl (PyProof.noPylong_small (by decide)))
  split at hb
  · rename_i e; subst e
    rw [bb_list] at hv; cases hv
    replace hb := on1_inv hb
    obtain ⟨v, rfl, hb⟩ := hb
    replace r := r.one
    obtain ⟨cc, rfl, r⟩ := r
    split at hb
    · rename_i i ev
      obtain rfl := asR_some ev
      obtain ⟨a, ha, rfl⟩ := r
      split at hb
      · rename_i xs e
        obtain ⟨us, n, hl, hA⟩ := x.lsAt e ha
        refine call_list_seq a (.inl rfl) hl rfl rfl (fun h' c' k hc => ?_) (by rw [A2.length_toArray hA, sizeLine_eq]; have := hb.1; lia)
        exact Post.alloc2 (tk := s.toks) (o := .list xs) x k hc ⟨us, c', rfl, hA⟩ hb.2
      · exact hb.elim
    · replace hb := onO_inv hb
      obtain ⟨⟨a, b, c⟩, e2, hb⟩ := hb
      obtain rfl := asRg_some e2
      obtain ⟨q, t, u, z, rfl, hr⟩ := r
      obtain ⟨h1, h2, h3, hq⟩ := hb
      dsimp only at h1 h2 h3 hq hr
      subst h3
      have hn := range_size1 a b
      refine call_list_range (n := (b - a).toNat) hh hr (range_small h1 h2 (.inl rfl)) hn (by lia) fun h' tk acc' c' k hc hacc => ?_
      have hA := range_items (h := s.heap) hacc
      refine Post.alloc2 (o := .list ((rangeList a b 1).map fun k => D.a (.int k))) x k hc ⟨acc'.toList, c', by simp, ?_⟩ hq
      have e : ((rangeList a b 1).map fun k => D.a (.int k)) = ((List.range (b - a).toNat).map fun (k : Nat) => D.a (.int (a + (k : Int)))) := by
        unfold rangeList
        rw [if_pos rfl, List.map_map]; rfl
      rw [e]; exact hA
  split at hb
  · rename_i e; subst e
    rw [bb_tuple] at hv; cases hv
    replace hb := on1_inv hb
    obtain ⟨v, rfl, hb⟩ := hb
    replace hb := onR_inv hb
    obtain ⟨i, rfl, hb⟩ := hb
    obtain ⟨c, rfl, a, ha, rfl⟩ := r.one
    split at hb
    · rename_i xs e
      obtain ⟨us, n, hl, hA⟩ := x.lsAt e ha
      obtain ⟨hsz, hb⟩ := hb
      split at hb
      · rename_i as e2
        refine call_tuple_list hl.isList (fun h' k => ?_) (by rw [A2.length_toArray hA, sizeLine_eq]; lia)
        exact Post.tup s.toks (x.grow k) (Ext.grow ρ k) (dAtoms_A2 hA e2) hb
      · exact hb.elim
    · exact hb.elim
  split at hb
  · rename_i e; subst e
    rw [bb_set] at hv; cases hv
    cases vs with
    | nil =>
      obtain rfl := r.unnil
      refine set_new (w := w) fun c hS hf => ?_
      exact ⟨_, s.toks, _, .ref H.length, _, rfl, Ext.alloc .., x.alloc hf (o := .set []) hS, ⟨_, by rw [List.getElem?_append_right (by rw [x.len]; exact Nat.le_refl _), x.len]; simp, rfl⟩, hb⟩
    | cons v r0 =>
      replace hb := on1_inv hb
      obtain ⟨v2, e2, hb⟩ := hb
      rw [e2] at r
      replace hb := onR_inv hb
      obtain ⟨i, rfl, hb⟩ := hb
      obtain ⟨c, rfl, a, ha, rfl⟩ := r.one
      split at hb
      · rename_i xs e
        obtain ⟨us, n, hl, hA⟩ := x.lsAt e ha
        obtain ⟨hsz, hb⟩ := hb
        split at hb
        · rename_i ns e3
          refine set_list hh hl.isList (dInts_A2 hA e3) (by rw [dInts_len e3]; exact hsz) fun h' tk c k _ hc hS => ?_
          exact Post.alloc2 (o := .set (lDed ns)) x k hc hS hb
        · exact hb.elim
      · exact hb.elim
  exact hb.elim
end
end Mine

/-! M3e -/
namespace Mine
open PySem PySem.W PyProof.Rows PySem.Calls
section
variable {prog : Program} {w : World} {A : Around} {E : Value → Shared → Prop} {s : Shared} {base : Heap} {ρ : List Addr} {H : Hp}

/-- the method's built-in -/
noncomputable def methId (name : Str) : String × String :=
  if name = ("append" : Str) then ("list", "list.append") else if name = ("pop" : Str) then ("list", "list.pop") else ("set", "set.add")

theorem Post.upd {Q : V → Hp → Prop} {i : Nat} {a : Addr} {c : Obj} {o : O} {h' : Heap} {tk : Nat} {v : V} {cv : Value} (x : HR w base ρ H s.heap) (ha : ρ[i]? = some a) (hs : Heap.SameBut a s.heap h') (hc : h'.get? a = some c) (ho : OR w s.heap c o)
    (r : VR s.heap ρ cv v) (q : Q v (H.set i o)) : Post w base ρ s Q cv { s with heap := h', toks := tk } :=
  ⟨h', tk, ρ, v, _, rfl, Ext.upd ha hs, x.upd ha hs hc ho, r.ext x (Ext.upd ha hs), q⟩

theorem call_pop_at {l : Addr} {items : Array Value} {n : Nat} {i : Int} {u : Tok} {k : Nat} {y : Value} {Q : Value → Shared → Prop} (hsz : items.size ≤ sizeLine) (hl : IsL s.heap l items n) (hf : Builtin.List.listFitsIndex i = true) (hk : seqIndex? i items.size = some k) (hy : items[k]? = some y)
    (h : Q y { s with heap := s.heap.update l (Obj.mapSeq fun xs => xs.eraseIdxIfInBounds k) }) : wpAny (model prog w) A (call (.builtin "list.pop") [.ref l, .int i u]) Q E s :=
  call_meets F.slot_list_pop ⟨_, hl, rfl⟩ F.entry_list_pop (F.args_list_pop_2 _ _) (MeetsSeq.list_pop_at l items n i u k y hf hk hy hsz) ⟨hl, h⟩

theorem snd_meth {name : Str} {o : V} {vs : List V} {co : Value} {cs : List Value} {Q : V → Hp → Prop} (hb : meth name o vs H Q) (x : HR w base ρ H s.heap) (ro : VR s.heap ρ co o) (r : A2 (VR s.heap ρ) cs vs) :
    wpAny (model prog w) A (call (.builtin (methId name).2) (co :: cs)) (Post w base ρ s Q) E s := by
  unfold meth at hb
  split at hb
  · rename_i e; subst e
    have : (methId (Str.ofString "append")).2 = "list.append" := by decide +kernel
    rw [this]
    replace hb := onR_inv hb
    obtain ⟨i, rfl, hb⟩ := hb
    replace hb := on1_inv hb
    obtain ⟨v, rfl, hb⟩ := hb
    replace hb := onD_inv hb
    obtain ⟨y, rfl, hb⟩ := hb
    obtain ⟨a, ha, rfl⟩ := ro
    replace r := r.one
    obtain ⟨c, rfl, r⟩ := r
    split at hb
    · rename_i xs e
      obtain ⟨us, n, hl, hA⟩ := x.lsAt e ha
      refine append_at hl (fun h' hs hc => ?_) (by rw [A2.length_toArray hA, sizeLine_eq]; have := hb.1; lia)
      exact Post.upd (tk := s.toks) (o := .list (xs ++ [y])) (v := .none) x ha hs hc ⟨us ++ [c], n + 1, by simp, A2.append hA ⟨r, trivial⟩⟩ rfl hb.2
    · exact hb.elim
  split at hb
  · rename_i e; subst e
    have : (methId (Str.ofString "pop")).2 = "list.pop" := by decide +kernel
    rw [this]
    replace hb := onR_inv hb
    obtain ⟨i, rfl, hb⟩ := hb
    replace hb := on1_inv hb
    obtain ⟨v, rfl, hb⟩ := hb
    replace hb := onI_inv hb
    obtain ⟨k, rfl, hb⟩ := hb
    · obtain ⟨a, ha, rfl⟩ := ro
      obtain ⟨c, rfl, t, rfl⟩ := r.one
      · split at hb
        · rename_i xs e
          obtain ⟨us, n, hl, hA⟩ := x.lsAt e ha
          obtain ⟨hsz, h0, h1, hb⟩ := hb
          split at hb
          · rename_i y e2
            obtain ⟨c, hc, hr⟩ := A2.getA hA e2
            have hk : k.toNat < us.toArray.size := (Array.getElem?_eq_some_iff.mp hc).1
            refine call_pop_at (k := k.toNat) (by rw [A2.length_toArray hA, sizeLine_eq]; lia) hl (fitsIndex_of h0 (by lia)) (seqIndex_nn h0 hk) hc ?_
            have hk2 : k.toNat < us.length := by simpa using hk
            have e3 : Obj.mapSeq (fun xs => xs.eraseIdxIfInBounds k.toNat) (W.listOf us.toArray n) = W.listOf (List.toArray (us.eraseIdx k.toNat)) (n + 1) := by
              have h3 : us.toArray.eraseIdxIfInBounds k.toNat = (us.eraseIdx k.toNat).toArray := by
                apply Array.toList_inj.mp
                simp [Array.eraseIdxIfInBounds, hk2]
              unfold Obj.mapSeq W.listOf
              dsimp only
              rw [h3]
              have h4 : ((us.eraseIdx k.toNat).toArray.size == us.toArray.size) = false := by
                rw [beq_eq_false_iff_ne]
                simp [List.length_eraseIdx, hk2]
                lia
              rw [h4]
              rfl
            have hg : (s.heap.update a (Obj.mapSeq fun xs => xs.eraseIdxIfInBounds k.toNat)).get? a = some (W.listOf (List.toArray (us.eraseIdx k.toNat)) (n + 1)) := by
              rw [Heap.get?_update_self _ hl (by rw [e3]; rfl), e3]
            exact Post.upd (tk := s.toks) (o := .list (xs.eraseIdx k.toNat)) (v := .d y) x ha (Heap.SameBut.update ..) hg ⟨_, n + 1, rfl, A2.erase hA _⟩ hr hb
          · exact hb.elim
        · exact hb.elim
  split at hb
  · rename_i e; subst e
    have : (methId (Str.ofString "add")).2 = "set.add" := by decide +kernel
    rw [this]
    replace hb := onR_inv hb
    obtain ⟨i, rfl, hb⟩ := hb
    replace hb := on1_inv hb
    obtain ⟨v, rfl, hb⟩ := hb
    replace hb := onI_inv hb
    obtain ⟨k, rfl, hb⟩ := hb
    obtain ⟨a, ha, rfl⟩ := ro
    obtain ⟨c, rfl, t, rfl⟩ := r.one
    split at hb
    · rename_i ns e
      obtain ⟨c, hc, hS⟩ := x.stAt e ha
      exact set_add hc hS hb.1 fun h' tk c' hs hc' hS' => Post.upd (o := .set (lIns ns k)) (v := .none) x ha hs hc' hS' rfl hb.2
    · exact hb.elim
  exact hb.elim

theorem snd_methOn {name : Str} {o : V} {co : Value} {pos : Pos} {trees : List (Bool × Sem Value)} {Q : Value → Shared → Prop} (hb : methOk name o H) (x : HR w base ρ H s.heap) (ro : VR s.heap ρ co o)
    (h : wpAny (model prog w) A (callWith pos (.builtin (methId name).2) [co] trees []) Q E s) : MethodOn prog w A name pos co trees Q E s := by
  unfold methOk at hb
  split at hb
  · rename_i e
    have go : Slot "list" name (methId name).2 ∧ typeOf (.builtin (methId name).2) = pure (.type "method_descriptor") := by
      rcases e with rfl | rfl
      · have : (methId (Str.ofString "append")).2 = "list.append" := by decide +kernel
        rw [this]
        exact ⟨F.slot_list_append, by kernel_rfl⟩
      · have : (methId (Str.ofString "pop")).2 = "list.pop" := by decide +kernel
        rw [this]
        exact ⟨F.slot_list_pop, by kernel_rfl⟩
    replace hb := onR_inv hb
    obtain ⟨i, rfl, hb⟩ := hb
    obtain ⟨a, ha, rfl⟩ := ro
    obtain ⟨xs, e⟩ := Option.isSome_iff_exists.mp hb
    obtain ⟨us, n, hl, hA⟩ := x.lsAt e ha
    exact ⟨"list", _, F.plainAttrs_list, go.1, go.2, ⟨_, hl, rfl⟩, fun b e => by cases e; exact ⟨_, hl, rfl⟩, h⟩
  split at hb
  · rename_i e; subst e
    have e1 : (methId (Str.ofString "add")).2 = "set.add" := by decide +kernel
    rw [e1] at h
    replace hb := onR_inv hb
    obtain ⟨i, rfl, hb⟩ := hb
    obtain ⟨a, ha, rfl⟩ := ro
    obtain ⟨xs, e⟩ := Option.isSome_iff_exists.mp hb
    obtain ⟨c, hc, hS⟩ := x.stAt e ha
    obtain ⟨es, ep, t, ms, rfl, _⟩ := hS
    exact ⟨"set", _, F.plainAttrs_set, F.slot_set_add, by kernel_rfl, ⟨_, hc, rfl⟩, fun b e => by cases e; exact ⟨_, hc, rfl⟩, h⟩
  exact hb.elim

theorem snd_inop {op : Operator} {a b : V} {ca cb : Value} {Q : V → Hp → Prop} (hb : inop op a b H Q) (x : HR w base ρ H s.heap) (ra : VR s.heap ρ ca a) (rb : VR s.heap ρ cb b) :
    wpAny (model prog w) A (inplaceOp op ca cb) (Post w base ρ s Q) E s := by
  unfold inop at hb
  split at hb
  · rename_i i ea
    obtain rfl := asI_some ea
    replace hb := onI_inv hb
    obtain ⟨j, rfl, hb⟩ := hb
    obtain ⟨t, rfl⟩ := ra; obtain ⟨u, rfl⟩ := rb
    unfold inI at hb
    split at hb
    · exact wpAny_iadd_int (Post.int x _ hb)
    · exact iand_int (Post.int x _ hb)
    · exact ior_int (Post.int x _ hb)
    · exact hb.elim
  · replace hb := onR_inv hb
    obtain ⟨i, rfl, hb⟩ := hb
    replace hb := onR_inv hb
    obtain ⟨j, rfl, hb⟩ := hb
    obtain ⟨l1, h1, rfl⟩ := ra; obtain ⟨l2, h2, rfl⟩ := rb
    split at hb
    · unfold iorS at hb
      split at hb
      · rename_i ns ms e1 e2
        obtain ⟨c, hc, hS⟩ := x.stAt e1 h1
        obtain ⟨d, hd, hT⟩ := x.stAt e2 h2
        obtain ⟨hij, hn, hq⟩ := hb
        have hne : l1 ≠ l2 := by
          rintro rfl
          have g1 := (List.getElem?_eq_some_iff.mp h1)
          have g2 := (List.getElem?_eq_some_iff.mp h2)
          exact hij ((List.getElem_inj x.nd).mp (g1.2.trans g2.2.symm))
        exact set_ior hc hS hd hT hne hn fun h' tk c' hs hc' hS' => Post.upd (o := .set (lUni ns ms)) (v := .ref i) x h1 hs hc' hS' ⟨l1, h1, rfl⟩ hq
      · exact hb.elim
    · exact hb.elim
end
end Mine

/-! M4 -/
namespace Mine
open PySem PySem.W PyProof.Rows PySem.Calls

/-! what the spelling must be -/
noncomputable def okEs (f : Expr → Bool) : List Expr → Bool
  | [] => true
  | .Starred .. :: _ => false
  | e :: r => f e && okEs f r
noncomputable def okO (f : Expr → Bool) : Option Expr → Bool
  | none => true
  | some e => f e
noncomputable def okN (sc : Scope) (x : Str) (k : NameKind) : Bool := sc.names.lookup x == some k && !(x == ("__debug__" : Str))

/-- an index that is no slice -/
noncomputable def okI : Expr → Bool
  | .Name .. | .Constant .. | .BinOp .. | .Call .. | .Subscript .. => true
  | _ => false
theorem nameOf_some {e : Expr} {x : Str} (h : nameOf e = some x) : ∃ p, e = .Name x p := by
  have q := eh_is e
  revert q h
  unfold nameOf
  generalize eh e = w
  intro h q
  cases w <;> first | exact nomatch (show none = some _ from h) | (cases h; exact ⟨_, q⟩)
theorem usubOf_some {e x : Expr} (h : usubOf e = some x) : ∃ p, e = .UnaryOp .USub x p := by
  have q := eh_is e
  revert q h
  unfold usubOf
  generalize eh e = w
  intro h q
  cases w <;> first | exact nomatch (show none = some _ from h) | skip
  rename_i op e1
  cases op <;> first | exact nomatch (show none = some _ from h) | (cases h; exact q)
theorem onlyOf_some {α : Type} {l : List α} {x : α} (h : onlyOf l = some x) : l = [x] := by
  cases l with
  | nil => cases h
  | cons y r => cases r with
    | nil => cases h; rfl
    | cons _ _ => cases h
theorem nilOf_some {α : Type} {l : List α} {u : Unit} (h : nilOf l = some u) : l = [] := by
  cases l with
  | nil => rfl
  | cons _ _ => cases h
noncomputable def iterOf (e : Expr) : Option (Str × Pos) := match eh e with
  | .name x p => some (x, p)
  | _ => none
theorem iterOf_some {e : Expr} {x : Str × Pos} (h : iterOf e = some x) : e = .Name x.1 x.2 := by
  have q := eh_is e
  revert q h
  unfold iterOf
  generalize eh e = w
  intro h q
  cases w <;> first | exact nomatch (show none = some _ from h) | (cases h; exact q)
noncomputable def compG (g : Comprehension) : Option (Str × Str × Pos) := (nameOf g.target).bind fun x => (nilOf g.ifs).bind fun _ => if g.is_async = 0 then (iterOf g.iter).bind fun i => some (x, i) else none
theorem compG_some {g : Comprehension} {z : Str × Str × Pos} (hh : compG g = some z) : ∃ px, g = ⟨.Name z.1 px, .Name z.2.1 z.2.2, [], 0⟩ := by
  obtain ⟨tg, it, ifs, a⟩ := g
  obtain ⟨x, h1, k1⟩ := Option.bind_eq_some_iff.mp hh
  obtain ⟨u, h2, k2⟩ := Option.bind_eq_some_iff.mp k1
  by_cases ha : a = 0
  · rw [if_pos ha] at k2
    obtain ⟨i, h3, k3⟩ := Option.bind_eq_some_iff.mp k2
    obtain ⟨px, e1⟩ := nameOf_some h1
    have e2 := nilOf_some h2
    have e3 := iterOf_some h3
    dsimp only at e1 e2 e3
    cases k3
    exact ⟨px, by rw [e1, e2, e3, ha]⟩
  · rw [if_neg ha] at k2
    cases k2
/-- a list of the opposites of a tuple's ints -/
noncomputable def compOf (e : Expr) (gs : List Comprehension) : Option (Str × Str × Str × Pos) :=
  (usubOf e).bind fun e1 => (nameOf e1).bind fun y => (onlyOf gs).bind fun g => (compG g).bind fun z => some (y, z)
theorem compOf_some {e : Expr} {gs : List Comprehension} {y x i : Str} {q : Pos} (hh : compOf e gs = some (y, x, i, q)) :
    ∃ p1 p2 px, e = .UnaryOp .USub (.Name y p1) p2 ∧ gs = [⟨.Name x px, .Name i q, [], 0⟩] := by
  obtain ⟨e1, h1, k1⟩ := Option.bind_eq_some_iff.mp hh
  obtain ⟨y0, h2, k2⟩ := Option.bind_eq_some_iff.mp k1
  obtain ⟨g, h3, k3⟩ := Option.bind_eq_some_iff.mp k2
  obtain ⟨z, h4, k4⟩ := Option.bind_eq_some_iff.mp k3
  obtain ⟨p2, a1⟩ := usubOf_some h1
  obtain ⟨p1, a2⟩ := nameOf_some h2
  obtain ⟨px, a3⟩ := compG_some h4
  cases k4
  exact ⟨p1, p2, px, by rw [a1, a2], by rw [onlyOf_some h3, a3]⟩
noncomputable def optB {α : Type} (o : Option α) (f : α → Bool) : Bool := match o with
  | some x => f x
  | none => false
theorem optB_true {α : Type} {o : Option α} {f : α → Bool} (h : optB o f = true) : ∃ x, o = some x ∧ f x = true := by
  cases o with
  | none => cases h
  | some x => exact ⟨x, rfl, h⟩
theorem and_true_of {a b : Bool} (h : (a && b) = true) : a = true ∧ b = true := Bool.and_eq_true_iff.mp h
noncomputable def okUS : UnaryOp → Bool
  | .USub => true
  | _ => false
theorem okUS_true {op : UnaryOp} (h : okUS op = true) : op = .USub := by
  cases op <;> first | rfl | exact Bool.noConfusion h
noncomputable def okNt : UnaryOp → Bool
  | .Not => true
  | _ => false
theorem okNt_true {op : UnaryOp} (h : okNt op = true) : op = .Not := by
  cases op <;> first | rfl | exact Bool.noConfusion h
noncomputable def okSl (f : Expr → Bool) (e : Expr) : Bool := match eh e with
  | .slc lo hi st => (match st with
    | none => okO f lo && okO f hi
    | some _ => false)
  | _ => false
theorem okSl_true {f : Expr → Bool} {e : Expr} (h : okSl f e = true) : ∃ lo hi p, e = .Slice lo hi none p ∧ okO f lo = true ∧ okO f hi = true := by
  have q := eh_is e
  revert q h
  unfold okSl
  generalize eh e = w
  intro h q
  cases w <;> first | exact Bool.noConfusion (show false = true from h) | skip
  rename_i lo hi st
  cases st with
  | none =>
    obtain ⟨p, q⟩ := q
    exact ⟨lo, hi, p, q, and_true_of h⟩
  | some _ => cases h
noncomputable def methOf (e : Expr) : Option (Expr × Str × Pos) := match eh e with
  | .meth o name p => some (o, name, p)
  | _ => none
theorem methOf_some {e : Expr} {x : Expr × Str × Pos} (h : methOf e = some x) : e = .Attribute x.1 x.2.1 x.2.2 := by
  have q := eh_is e
  revert q h
  unfold methOf
  generalize eh e = w
  intro h q
  cases w <;> first | exact nomatch (show none = some _ from h) | (cases h; exact q)
mutual
noncomputable def okE (sc : Scope) : Nat → Expr → Bool
  | 0, _ => false
  | n + 1, e => match e with
    | .Constant _ _ _ => true
    | .Name x _ => if x = ("bool" : Str) then okN sc x .globalImplicit else okN sc x .local
    | .Tuple es _ _ => okEs (okE sc n) es
    | .List es _ => okEs (okE sc n) es
    | .UnaryOp op e _ => okUS op && okE sc n e
    | .BinOp l _ r _ => okE sc n l && okE sc n r
    | .Compare l ops rs _ => optB (onlyOf ops) fun op => optB (onlyOf rs) fun r => okE sc n l && okE sc n r && !(behindInMarks op r)
    | .BoolOp _ es _ => es.all (okE sc n)
    | .IfExp t a b _ => okT sc n t && okE sc n a && okE sc n b
    | .Subscript o i _ => okE sc n o && (okSl (okE sc n) i || (okI i && okE sc n i))
    | .Call f args ks pos => optB (nilOf ks) fun _ => (optB (methOf f) fun z => (nameOf z.1).isSome && okE sc n z.1 && optB (onlyOf args) fun a => okEs (okE sc n) [a] && (z.2.2.endLine == pos.line)) ||
        (optB (nameOf f) fun f => okN sc f .globalImplicit && okEs (okE sc n) args && (builtins.contains f || users.contains f))
    | .ListComp e gs cs _ => optB (compOf e gs) fun z => z.1 == z.2.1 && okE sc n (.Name z.2.2.1 z.2.2.2) && decide (cs.kind = .function) && okN cs z.2.1 .local && cs.names.all (fun y => decide (y.2 ≠ .free) && decide (y.2 ≠ .cell) && decide (cs.names.lookup y.1 = some y.2))
    | _ => false
noncomputable def okT (sc : Scope) : Nat → Expr → Bool
  | 0, _ => false
  | n + 1, e => match e with
    | .UnaryOp op x _ => okNt op && okT sc n x
    | .BoolOp _ es _ => es.all (okT sc n)
    | .Compare l ops rs _ => optB (onlyOf ops) fun op => optB (onlyOf rs) fun r => okE sc n l && okE sc n r && !(behindInMarks op r)
    | .Name x p => okE sc n (.Name x p)
    | .Call f as ks p => okE sc n (.Call f as ks p)
    | .Constant c k p => okE sc n (.Constant c k p)
    | _ => false
end

structure Amb (A : Around) (n : Nat) : Prop where
  handled : A.handled = none
  depth : A.depth + n ≤ 900
  units : A.units + 3 * n ≤ 9000

structure Gd (K : Frag) (p : Program) (loose : List Str) (mg mb : Str → Option Value) (base : Heap) : Prop where
  X : K.In base
  T : TopRead p loose mg mb base
  nb : ∀ x ∈ ("bool" : Str) :: builtins, nsIn K mainGlobals x = some none
  last : ∀ h : Heap, (∀ b o, base.get? b = some o → h.get? b = some o) → base.objs.size ≤ h.objs.size
  us : ∀ f ∈ users, ∃ fa, nsIn K mainGlobals f = some (some (.ref fa)) ∧ keepIn K (.ref fa) = true

noncomputable def GSnd (prog : Program) (w : World) (K : Frag) (base : Heap) (Γ : Gam) (n : Nat) : Prop :=
  ∀ f vs h r h' fa, Γ f vs h r h' → nsIn K mainGlobals f = some (some (.ref fa)) →
    ∀ (A : Around) (E Q : Value → Shared → Prop) (s : Shared) (ρ : List Addr) (cs : List Value), Amb A n → HR w base ρ h s.heap → A2 (VR s.heap ρ) cs vs →
      (∀ h2 tk ρ' c, Ext ρ s.heap ρ' h2 → HR w base ρ' h' h2 → VR h2 ρ' c r → Q c { s with heap := h2, toks := tk }) →
      wpAny (model prog w) A (call (.ref fa) cs) Q E s

structure StR (w : World) (base : Heap) (L : Addr) (sc : Scope) (mc : Str → Option Value) (ρ : List Addr) (m : Loc) (H : Hp) (s : Shared) : Prop where
  fr : Fr base L s.heap mc
  hr : HR w base ρ H s.heap
  loc : ∀ x v, lget m x = some v → sc.names.lookup x = some .local ∧ (v = .undef ∨ ∃ c, mc x = some c ∧ VR s.heap ρ c v)

inductive PostL (w : World) (base : Heap) (ρ : List Addr) (s : Shared) (Q : List V → Hp → Prop) (cs : List Value) (s' : Shared) : Prop
  | mk (h' : Heap) (tk' : Nat) (ρ' : List Addr) (vs : List V) (H' : Hp) (e0 : s' = { s with heap := h', toks := tk' }) (e1 : Ext ρ s.heap ρ' h') (e2 : HR w base ρ' H' h') (e3 : A2 (VR h' ρ') cs vs) (e4 : Q vs H') : PostL w base ρ s Q cs s'
inductive PostB (w : World) (base : Heap) (ρ : List Addr) (s : Shared) (Q : Bool → Hp → Prop) (b : Bool) (s' : Shared) : Prop
  | mk (h' : Heap) (tk' : Nat) (ρ' : List Addr) (H' : Hp) (e0 : s' = { s with heap := h', toks := tk' }) (e1 : Ext ρ s.heap ρ' h') (e2 : HR w base ρ' H' h') (e3 : Q b H') : PostB w base ρ s Q b s'

section
variable {prog : Program} {w : World} {A : Around} {E : Value → Shared → Prop} {s : Shared} {base : Heap} {ρ ρ' : List Addr} {H H' : Hp} {L : Addr} {sc : Scope} {mc : Str → Option Value} {m : Loc} {h' : Heap} {tk : Nat}

theorem StR.notIn (R : StR w base L sc mc ρ m H s) : L ∉ ρ := by
  obtain ⟨oL, es, ep, hL, hd, _⟩ := R.fr.ns
  exact R.hr.untracked hL fun t => t.2 _ _ hd
theorem Fr.ext (F : Fr base L s.heap mc) (hL : L ∉ ρ) (e : Ext ρ s.heap ρ' h') (k : ∀ b o, base.get? b = some o → h'.get? b = some o) : Fr base L h' mc := by
  obtain ⟨oL, es, ep, h1, r⟩ := F.ns
  exact ⟨⟨oL, es, ep, e.keep _ _ h1 hL, r⟩, k, F.above⟩
theorem StR.ext (R : StR w base L sc mc ρ m H s) (e : Ext ρ s.heap ρ' h') (hr : HR w base ρ' H' h') : StR w base L sc mc ρ' m H' { s with heap := h', toks := tk } where
  fr := Fr.ext R.fr R.notIn e hr.keep
  hr := hr
  loc := fun x v hx => by
    obtain ⟨h1, h2⟩ := R.loc x v hx
    exact ⟨h1, h2.imp id fun ⟨c, hc, r⟩ => ⟨c, hc, r.ext R.hr e⟩⟩

theorem Post.trans {Q : V → Hp → Prop} {c : Value} {s' : Shared} (e : Ext ρ s.heap ρ' h') (q : Post w base ρ' { s with heap := h', toks := tk } Q c s') : Post w base ρ s Q c s' := by
  obtain ⟨h2, tk2, ρ2, v, H2, rfl, e2, x2, r2, q2⟩ := q
  exact ⟨h2, tk2, ρ2, v, H2, rfl, e.trans e2, x2, r2, q2⟩
theorem PostL.trans {Q : List V → Hp → Prop} {c : List Value} {s' : Shared} (e : Ext ρ s.heap ρ' h') (q : PostL w base ρ' { s with heap := h', toks := tk } Q c s') : PostL w base ρ s Q c s' := by
  obtain ⟨h2, tk2, ρ2, v, H2, rfl, e2, x2, r2, q2⟩ := q
  exact ⟨h2, tk2, ρ2, v, H2, rfl, e.trans e2, x2, r2, q2⟩
theorem PostB.trans {Q : Bool → Hp → Prop} {c : Bool} {s' : Shared} (e : Ext ρ s.heap ρ' h') (q : PostB w base ρ' { s with heap := h', toks := tk } Q c s') : PostB w base ρ s Q c s' := by
  obtain ⟨h2, tk2, ρ2, H2, rfl, e2, x2, q2⟩ := q
  exact ⟨h2, tk2, ρ2, H2, rfl, e.trans e2, x2, q2⟩

/-- go on behind an evaluation -/
theorem Post.on {t : Sem Value} {Q : V → Hp → Prop} {P : Value → Shared → Prop} (R : StR w base L sc mc ρ m H s) (h : wpAny (model prog w) A t (Post w base ρ s Q) E s)
    (k : ∀ c v ρ₁ H₁ h₁ tk₁, Ext ρ s.heap ρ₁ h₁ → StR w base L sc mc ρ₁ m H₁ { s with heap := h₁, toks := tk₁ } → VR h₁ ρ₁ c v → Q v H₁ → P c { s with heap := h₁, toks := tk₁ }) : wpAny (model prog w) A t P E s :=
  wpAny_mono h (fun c s' q => by
    obtain ⟨h₁, tk₁, ρ₁, v, H₁, rfl, e, x, r, q⟩ := q
    exact k c v ρ₁ H₁ h₁ tk₁ e (R.ext e x) r q) fun _ _ x => x
theorem PostL.on {t : Sem (List Value)} {Q : List V → Hp → Prop} {P : List Value → Shared → Prop} (R : StR w base L sc mc ρ m H s) (h : wpAny (model prog w) A t (PostL w base ρ s Q) E s)
    (k : ∀ c v ρ₁ H₁ h₁ tk₁, Ext ρ s.heap ρ₁ h₁ → StR w base L sc mc ρ₁ m H₁ { s with heap := h₁, toks := tk₁ } → A2 (VR h₁ ρ₁) c v → Q v H₁ → P c { s with heap := h₁, toks := tk₁ }) : wpAny (model prog w) A t P E s :=
  wpAny_mono h (fun c s' q => by
    obtain ⟨h₁, tk₁, ρ₁, v, H₁, rfl, e, x, r, q⟩ := q
    exact k c v ρ₁ H₁ h₁ tk₁ e (R.ext e x) r q) fun _ _ x => x
theorem PostB.on {t : Sem Bool} {Q : Bool → Hp → Prop} {P : Bool → Shared → Prop} (R : StR w base L sc mc ρ m H s) (h : wpAny (model prog w) A t (PostB w base ρ s Q) E s)
    (k : ∀ c ρ₁ H₁ h₁ tk₁, Ext ρ s.heap ρ₁ h₁ → StR w base L sc mc ρ₁ m H₁ { s with heap := h₁, toks := tk₁ } → Q c H₁ → P c { s with heap := h₁, toks := tk₁ }) : wpAny (model prog w) A t P E s :=
  wpAny_mono h (fun c s' q => by
    obtain ⟨h₁, tk₁, ρ₁, H₁, rfl, e, x, q⟩ := q
    exact k c ρ₁ H₁ h₁ tk₁ e (R.ext e x) q) fun _ _ x => x

/-- what is shown of the parts -/
noncomputable def SndE (prog : Program) (w : World) (A : Around) (base : Heap) (L : Addr) (sc : Scope) (env : Env) (ok : Expr → Bool) (ev : Expr → Loc → Hp → (V → Hp → Prop) → Prop) : Prop :=
  ∀ e m H Q, ok e = true → ev e m H Q → ∀ (E : Value → Shared → Prop) (s : Shared) ρ mc, StR w base L sc mc ρ m H s → wpAny (model prog w) A (eval e env) (Post w base ρ s Q) E s
noncomputable def SndT (prog : Program) (w : World) (A : Around) (base : Heap) (L : Addr) (sc : Scope) (env : Env) (ok : Expr → Bool) (ev : Expr → Loc → Hp → (Bool → Hp → Prop) → Prop) : Prop :=
  ∀ e m H Q, ok e = true → ev e m H Q → ∀ (E : Value → Shared → Prop) (s : Shared) ρ mc, StR w base L sc mc ρ m H s → wpAny (model prog w) A (isTrue e env (eval e env)) (PostB w base ρ s Q) E s

theorem okEs_cons {f : Expr → Bool} {e : Expr} {r : List Expr} (h : okEs f (e :: r) = true) : f e = true ∧ okEs f r = true ∧ ∀ env, starEach (e :: r) env = (false, eval e env) :: starEach r env := by
  cases e <;> first | exact Bool.noConfusion (show false = true from h) | (have h2 := Bool.and_eq_true_iff.mp (show (f _ && okEs f r) = true from h); exact ⟨h2.1, h2.2, fun _ => rfl⟩)

theorem backTo_cons (pos : Pos) (t : Sem Value) (r : List (Bool × Sem Value)) : backTo pos ((false, t) :: r) = (false, t) :: backTo pos r := rfl

theorem sndEs {env : Env} {ok : Expr → Bool} {ev : Expr → Loc → Hp → (V → Hp → Prop) → Prop} (I : SndE prog w A base L sc env ok ev) :
    ∀ (es : List Expr) (H : Hp) (Q : List V → Hp → Prop) (pos : Pos), okEs ok es = true → evEs (fun e h Q => ev e m h Q) es H Q → ∀ (E : Value → Shared → Prop) (s : Shared) ρ mc, StR w base L sc mc ρ m H s →
      wpAny (model prog w) A (spliced (backTo pos (starEach es env))) (PostL w base ρ s Q) E s
  | [], H, Q, pos, _, he, E, s, ρ, mc, R => spliced_nil ⟨s.heap, s.toks, ρ, [], H, rfl, Ext.refl .., R.hr, trivial, he⟩
  | e :: r, H, Q, pos, ok, he, E, s, ρ, mc, R => by
    obtain ⟨o1, o2, o3⟩ := okEs_cons ok
    rw [o3, backTo_cons]
    refine spliced_cons (Post.on R (I e m H _ o1 he E s ρ mc R) fun c v ρ₁ H₁ h₁ tk₁ e₁ R₁ r₁ q₁ => ?_)
    refine PostL.on R₁ (sndEs I r H₁ _ pos o2 q₁ E _ ρ₁ mc R₁) fun cs vs ρ₂ H₂ h₂ tk₂ e₂ R₂ r₂ q₂ => ?_
    exact PostL.trans (tk := tk₁) e₁ ⟨h₂, tk₂, ρ₂, v :: vs, H₂, rfl, e₂, R₂.hr, ⟨r₁.ext R₁.hr e₂, r₂⟩, q₂⟩
end
end Mine

/-! M4b -/
namespace Mine
open PySem PySem.W PyProof.Rows PySem.Calls

section
variable {prog : Program} {w : World} {A : Around} {E : Value → Shared → Prop} {s : Shared} {base : Heap} {ρ ρ' : List Addr} {H H' : Hp} {L : Addr} {sc : Scope} {mc : Str → Option Value} {m : Loc} {h' : Heap} {tk : Nat}
  {K : Frag} {p : Program} {loose : List Str} {mg mb : Str → Option Value} {Γ : Gam} {d : Nat} {nm : Str} {fa : Addr} {cd : Value} {n : Nat}

theorem getIt_T {o k : V} {co : Value} {Q : V → Prop} (hb : getIt o k H Q) (x : HR w base ρ H s.heap) (ro : VR s.heap ρ co o) :
    s.TypeIs co "tuple" ∨ s.TypeIs co "list" := by
  unfold getIt at hb
  split at hb
  · rename_i xs eo
    obtain rfl := asT_some eo
    obtain ⟨a, vs, n, rfl, ht, hA⟩ := ro
    exact .inl ⟨_, ht, rfl⟩
  · replace hb := onR_inv hb
    obtain ⟨i, rfl, hb⟩ := hb
    replace hb := onI_inv hb
    obtain ⟨k, rfl, hb⟩ := hb
    obtain ⟨a, ha, rfl⟩ := ro
    split at hb
    · rename_i xs e1
      obtain ⟨vs, n, hl, hv⟩ := x.lsAt e1 ha
      exact .inr ⟨_, hl, rfl⟩
    · exact hb.elim

theorem snd_getTail {value sl : Expr} {o k : V} {co ck : Value} {Q : V → Hp → Prop} (hs : subscripted sl false co ck = operate [co, ck] (getItem co ck)) (hb : getIt o k H fun r => Q r H) (x : HR w base ρ H s.heap) (ro : VR s.heap ρ co o) (rk : VR s.heap ρ ck k) :
    wpAny (model prog w) A (subscriptTail value sl co ck) (Post w base ρ s Q) E s := by
  have hg : wpAny (model prog w) A (getItem co ck) (Post w base ρ s Q) E s :=
    wpAny_mono (snd_getIt hb x ro rk) (fun c s' ⟨e, v, r, q⟩ => by subst e; exact Post.here x r q) fun _ _ x => x
  rcases getIt_T hb x ro with hT | hT
  · exact tail_any hT slot_tuple_getitem.lookup hg hs
  · exact tail_any hT slot_list_getitem.lookup hg hs

theorem sndBo {env : Env} {ok : Expr → Bool} {ev : Expr → Loc → Hp → (V → Hp → Prop) → Prop} (I : SndE prog w A base L sc env ok ev) (op : BoolOp) (pos : Pos) :
    ∀ (es : List Expr) (H : Hp) (Q : V → Hp → Prop), es.all ok = true → evBo (fun e h Q => ev e m h Q) op es H Q → ∀ (E : Value → Shared → Prop) (s : Shared) ρ mc, StR w base L sc mc ρ m H s →
      wpAny (model prog w) A (eval (.BoolOp op es pos) env) (Post w base ρ s Q) E s
  | [], H, Q, _, he, E, s, ρ, mc, R => he.elim
  | [e], H, Q, ok, he, E, s, ρ, mc, R => BoolOp_one (I e m H Q (by simpa using ok) he E s ρ mc R)
  | e :: e2 :: r, H, Q, ok, he, E, s, ρ, mc, R => by
    rw [List.all_cons, Bool.and_eq_true] at ok
    have ok1 := ok
    have go := I e m H _ ok1.1 he E s ρ mc R
    have rest := sndBo I op pos (e2 :: r)
    cases op with
    | And =>
      refine BoolOp_and (Post.on R go fun c v ρ₁ H₁ h₁ tk₁ e₁ R₁ r₁ q₁ => ?_)
      split at q₁
      · rename_i b
        cases r₁
        refine wpAny_truthy_bool ?_
        cases b with
        | true => 
          have := rest H₁ Q ok1.2 (by simpa using q₁) E _ ρ₁ mc R₁
          exact wpAny_mono this (fun _ _ q => q.trans e₁) fun _ _ x => x
        | false => exact (Post.bool (Q := Q) (b := false) R₁.hr (by simpa using q₁)).trans e₁
      · exact q₁.elim
    | Or =>
      refine BoolOp_or (Post.on R go fun c v ρ₁ H₁ h₁ tk₁ e₁ R₁ r₁ q₁ => ?_)
      split at q₁
      · rename_i b
        cases r₁
        refine wpAny_truthy_bool ?_
        cases b with
        | true => exact (Post.bool (Q := Q) (b := true) R₁.hr (by simpa using q₁)).trans e₁
        | false =>
          have := rest H₁ Q ok1.2 (by simpa using q₁) E _ ρ₁ mc R₁
          exact wpAny_mono this (fun _ _ q => q.trans e₁) fun _ _ x => x
      · exact q₁.elim

theorem sndAll {env : Env} {ok : Expr → Bool} {ev : Expr → Loc → Hp → (Bool → Hp → Prop) → Prop} (I : SndT prog w A base L sc env ok ev) (op : BoolOp) :
    ∀ (es : List Expr) (H : Hp) (Q : Bool → Hp → Prop), es.all ok = true → Mine.evAll (fun e h Q => ev e m h Q) op es H Q → ∀ (E : Value → Shared → Prop) (s : Shared) ρ mc, StR w base L sc mc ρ m H s →
      wpAny (model prog w) A (allTrue op es env) (PostB w base ρ s Q) E s
  | [], H, Q, _, he, E, s, ρ, mc, R => by
    cases op with
    | And => exact wpAny_allTrue_And_nil ⟨s.heap, s.toks, ρ, H, rfl, Ext.refl .., R.hr, he⟩
    | Or => exact wpAny_allTrue_Or_nil ⟨s.heap, s.toks, ρ, H, rfl, Ext.refl .., R.hr, he⟩
  | e :: r, H, Q, ok, he, E, s, ρ, mc, R => by
    rw [List.all_cons, Bool.and_eq_true] at ok
    have ok1 := ok
    have go := I e m H _ ok1.1 he E s ρ mc R
    have rest := sndAll I op r
    cases op with
    | And =>
      refine wpAny_allTrue_And_cons (PostB.on R go fun b ρ₁ H₁ h₁ tk₁ e₁ R₁ q₁ => ?_)
      cases b with
      | true =>
        have := rest H₁ Q ok1.2 (by simpa using q₁) E _ ρ₁ mc R₁
        exact wpAny_mono this (fun _ _ q => q.trans e₁) fun _ _ x => x
      | false => exact PostB.trans (tk := tk₁) e₁ ⟨_, _, ρ₁, H₁, rfl, Ext.refl .., R₁.hr, by simpa using q₁⟩
    | Or =>
      refine wpAny_allTrue_Or_cons (PostB.on R go fun b ρ₁ H₁ h₁ tk₁ e₁ R₁ q₁ => ?_)
      cases b with
      | true => exact PostB.trans (tk := tk₁) e₁ ⟨_, _, ρ₁, H₁, rfl, Ext.refl .., R₁.hr, by simpa using q₁⟩
      | false =>
        have := rest H₁ Q ok1.2 (by simpa using q₁) E _ ρ₁ mc R₁
        exact wpAny_mono this (fun _ _ q => q.trans e₁) fun _ _ x => x

theorem sndPart {env : Env} {ok : Expr → Bool} {ev : Expr → Loc → Hp → (V → Hp → Prop) → Prop} (I : SndE prog w A base L sc env ok ev) {e : Option Expr} {Q : Option Int → Hp → Prop} {P : Value → Shared → Prop} (hok : okO ok e = true)
    (he : evPart (fun e h Q => ev e m h Q) e H Q) (R : StR w base L sc mc ρ m H s)
    (k : ∀ c l ρ₁ H₁ h₁ tk₁, Ext ρ s.heap ρ₁ h₁ → StR w base L sc mc ρ₁ m H₁ { s with heap := h₁, toks := tk₁ } → PR c l → Q l H₁ → P c { s with heap := h₁, toks := tk₁ }) :
    wpAny (model prog w) A (evalPart e env) P E s := by
  cases e with
  | none =>
    rw [evalPart_none]
    exact wpAny_pure (k .none none ρ H s.heap s.toks (Ext.refl ..) R rfl he)
  | some e =>
    refine wpAny_evalPart_some (Post.on R (I e m H _ hok he E s ρ mc R) fun c v ρ₁ H₁ h₁ tk₁ e₁ R₁ r₁ q₁ => ?_)
    split at q₁
    · rename_i i
      exact k c (some i) ρ₁ H₁ h₁ tk₁ e₁ R₁ r₁ q₁
    · exact q₁.elim

theorem plain_of_okEs {f : Expr → Bool} {env : Env} {pos : Pos} : ∀ {es : List Expr}, okEs f es = true → (backTo pos (starEach es env)).any (·.1) = false
  | [], _ => rfl
  | e :: r, h => by
    obtain ⟨_, h2, h3⟩ := okEs_cons h
    rw [h3, backTo_cons]
    simp [plain_of_okEs (pos := pos) h2]

theorem callWith_top {cf : Value} {pos : Pos} {f : Expr → Bool} {env : Env} {es : List Expr} {Q : Value → Shared → Prop} (hf : (∃ id, cf = .builtin id) ∨ ∃ T, cf = .type T) (ok : okEs f es = true)
    (h : wpAny (model prog w) A (spliced (backTo pos (starEach es env))) (fun vs s₁ => wpAny (model prog w) A (call cf vs) Q E s₁) E s) :
    wpAny (model prog w) A (callWith pos cf [] (backTo pos (starEach es env)) []) Q E s := by
  have hp := plain_of_okEs (env := env) (pos := pos) ok
  have ha : wpAny (model prog w) A (evalArgs cf true (backTo pos (starEach es env)) []) (fun a s₁ => wpAny (model prog w) A (call cf ([] ++ a.pos) a.kw) Q E s₁) E s := by
    cases es with
    | nil =>
      refine evalArgs_nil3 ?_
      intro Γ p hΓ
      exact h Γ p hΓ Γ p hΓ
    | cons e r =>
      obtain ⟨_, h2, h3⟩ := okEs_cons ok
      rw [h3, backTo_cons] at h ⊢
      exact evalArgs_plain h
  rcases hf with ⟨id, rfl⟩ | ⟨T, rfl⟩
  · exact callWith_builtin hp ha
  · exact PyProof.Rows.callWith_type hp ha

theorem callWith_user {g : Addr} {pos : Pos} {f : Expr → Bool} {env : Env} {es : List Expr} {Q : Value → Shared → Prop} (X : K.In base) (hk : keepIn K (.ref g) = true) (ok : okEs f es = true) (hb : ∀ b o, base.get? b = some o → s.heap.get? b = some o)
    (h : wpAny (model prog w) A (spliced (backTo pos (starEach es env))) (fun vs s₁ => (∀ b o, base.get? b = some o → s₁.heap.get? b = some o) ∧ wpAny (model prog w) A (call (.ref g) vs) Q E s₁) E s) :
    wpAny (model prog w) A (callWith pos (.ref g) [] (backTo pos (starEach es env)) []) Q E s := by
  cases es with
  | nil =>
    refine callWith_K0 (X.keeps hb) hk ?_
    intro Γ p hΓ
    exact (h Γ p hΓ).2 Γ p hΓ
  | cons e r =>
    obtain ⟨_, h2, h3⟩ := okEs_cons ok
    refine callWith_K X hk (wpAny_mono h (fun vs s₁ q => ⟨X.keeps q.1, q.2⟩) fun _ _ x => x) (h3 env) (plain_of_okEs h2)
end
end Mine

/-! M4c -/
namespace Mine
open PySem PySem.W PyProof.Rows PySem.Calls

section
variable {prog : Program} {w : World} {A : Around} {E : Value → Shared → Prop} {s : Shared} {base : Heap} {ρ ρ' : List Addr} {H H' : Hp} {L : Addr} {sc : Scope} {mc : Str → Option Value} {m : Loc} {h' : Heap} {tk : Nat}
  {K : Frag} {p : Program} {loose : List Str} {mg mb : Str → Option Value} {Γ : Gam} {d : Nat} {nm : Str} {fa : Addr} {cd : Value} {n : Nat}

theorem okN_iff {sc : Scope} {x : Str} {k : NameKind} (h : okN sc x k = true) : sc.names.lookup x = some k ∧ (x == ("__debug__" : Str)) = false := by
  unfold okN at h
  simp only [Bool.and_eq_true, Bool.not_eq_true', beq_iff_eq] at h
  exact h

theorem atoms_A2 {h : Heap} : ∀ {cs : List Value} {vs : List V} {as : List At}, A2 (VR h ρ) cs vs → atoms vs = some as → A2 AR cs as
  | [], [], as, _, e => by simp [atoms] at e; subst e; trivial
  | c :: cs, v :: vs, as, hA, e => by
    match v, hA, e with
    | .d (.a x), hA, e =>
      simp only [atoms, Option.map_eq_some_iff] at e
      obtain ⟨bs, hb, rfl⟩ := e
      exact ⟨hA.1, atoms_A2 hA.2 hb⟩
    | .d (.t x), hA, e => simp [atoms] at e
    | .undef, hA, e => simp [atoms] at e
    | .ty _, hA, e => simp [atoms] at e
    | .range _ _ _, hA, e => simp [atoms] at e
    | .ref _, hA, e => simp [atoms] at e
theorem datas_A2 {h : Heap} : ∀ {cs : List Value} {vs : List V} {as : List D}, A2 (VR h ρ) cs vs → datas vs = some as → A2 (DR h) cs as
  | [], [], as, _, e => by simp [datas] at e; subst e; trivial
  | c :: cs, v :: vs, as, hA, e => by
    match v, hA, e with
    | .d x, hA, e =>
      simp only [datas, Option.map_eq_some_iff] at e
      obtain ⟨bs, hb, rfl⟩ := e
      exact ⟨hA.1, datas_A2 hA.2 hb⟩
    | .undef, hA, e => simp [datas] at e
    | .ty _, hA, e => simp [datas] at e
    | .range _ _ _, hA, e => simp [datas] at e
    | .ref _, hA, e => simp [datas] at e
theorem atInts_A2 : ∀ {vs : List Value} {xs : List At} {as : List Int}, A2 AR vs xs → atInts xs = some as → A2 (fun v i => ∃ t, v = Value.int i t) vs as
  | [], [], as, _, e => by simp [atInts] at e; subst e; trivial
  | v :: vs, d :: xs, as, hA, e => by
    cases d with
    | int i =>
      simp only [atInts, Option.map_eq_some_iff] at e
      obtain ⟨bs, hb, rfl⟩ := e
      exact ⟨hA.1, atInts_A2 hA.2 hb⟩
    | _ => simp [atInts] at e
theorem atInts_len : ∀ {xs : List At} {as : List Int}, atInts xs = some as → as.length = xs.length
  | [], as, e => by simp [atInts] at e; subst e; rfl
  | d :: xs, as, e => by
    cases d with
    | int i =>
      simp only [atInts, Option.map_eq_some_iff] at e
      obtain ⟨bs, hb, rfl⟩ := e
      simp [atInts_len hb]
    | _ => simp [atInts] at e

theorem builtin_kind {f : Str} (h : f ∈ builtins) : ∃ cf, bootBuiltins f = some cf ∧ ((∃ id, cf = .builtin id) ∨ ∃ T, cf = .type T) ∧ f ≠ "__name__" := by
  simp only [builtins, List.mem_cons, List.not_mem_nil, or_false] at h
  rcases h with rfl | rfl | rfl | rfl | rfl | rfl | rfl | rfl
  · exact ⟨_, bb_abs, .inl ⟨_, rfl⟩, by decide⟩
  · exact ⟨_, bb_len, .inl ⟨_, rfl⟩, by decide⟩
  · exact ⟨_, bb_int, .inr ⟨_, rfl⟩, by decide⟩
  · exact ⟨_, bb_isinstance, .inl ⟨_, rfl⟩, by decide⟩
  · exact ⟨_, bb_range, .inr ⟨_, rfl⟩, by decide⟩
  · exact ⟨_, bb_list, .inr ⟨_, rfl⟩, by decide⟩
  · exact ⟨_, bb_tuple, .inr ⟨_, rfl⟩, by decide⟩
  · exact ⟨_, bb_set, .inr ⟨_, rfl⟩, by decide⟩

/-- a name of a frame's own -/
theorem snd_local {x : Str} {v : V} {pos : Pos} {Q : Value → Shared → Prop} (hk : sc.kind = .function) (R : StR w base L sc mc ρ m H s) (e : lget m x = some v) (hv : v ≠ .undef) (hd : (x == ("__debug__" : Str)) = false)
    (h : ∀ c, VR s.heap ρ c v → Q c s) : wpAny (model prog w) A (eval (.Name x pos) (envOf nm sc L fa cd)) Q E s := by
  obtain ⟨h1, h2⟩ := R.loc x v e
  rcases h2 with h2 | ⟨c, hc, r⟩
  · exact absurd h2 hv
  · exact ld R.fr hc (h c r) hk h1 hd

theorem paired_neg {h : Heap} {us zs : List Value} (hF : Paired (fun v y => ∀ i t, v = Value.int i t → ∃ u, y = Value.int (-i) u) us zs) : ∀ {ns : List Int}, A2 (fun v i => ∃ t, v = Value.int i t) us ns → A2 (DR h) zs (ns.map fun k => D.a (.int (-k))) := by
  induction hF with
  | nil => intro ns hA; cases ns with
    | nil => trivial
    | cons _ _ => exact hA.elim
  | cons h1 _ ih => intro ns hA; cases ns with
    | nil => exact hA.elim
    | cons k ns =>
      obtain ⟨t, e⟩ := hA.1
      exact ⟨h1 _ _ e, ih hA.2⟩

theorem snd_comp {x it : Str} {px q pos p1 p2 : Pos} {cs : Scope} {Q : V → Hp → Prop} {as : List At} {ns : List Int} {env : Env} (hh : A.handled = none)
    (hkind : cs.kind = .function) (hx : okN cs x .local = true) (hall : (cs.names.all fun y => decide (y.2 ≠ .free) && decide (y.2 ≠ .cell) && decide (cs.names.lookup y.1 = some y.2)) = true)
    (hq : ns.length ≤ 1000 ∧ Q (.ref H.length) (H ++ [.list (ns.map fun k => .a (.int (-k)))])) (hns : atInts as = some ns) (x0 : HR w base ρ H s.heap)
    (hit : ∀ Q' : Value → Shared → Prop, (∀ c, VR s.heap ρ c (.tup as) → Q' c s) → wpAny (model prog w) A (eval (.Name it q) env) Q' E s) :
    wpAny (model prog w) A (eval (.ListComp (.UnaryOp .USub (.Name x p1) p2) [⟨.Name x px, .Name it q, [], 0⟩] cs pos) env) (Post w base ρ s Q) E s := by
  have all := fun y (hy : y ∈ cs.names) => (List.all_eq_true.mp hall) y hy
  simp only [Bool.and_eq_true, decide_eq_true_eq] at all
  have hxl := okN_iff hx
  refine wpAny_ListComp_walk (fun _ => true) (fun v y => ∀ i t, v = Value.int i t → ∃ u, y = Value.int (-i) u) (fun y hy => (all y hy).1.1) (fun y hy => (all y hy).1.2) hkind (fun y hy e => by rw [← e]; exact (all y hy).2) hxl.1 ?_
  refine hit _ fun c r => ?_
  obtain ⟨a, vs, k, rfl, ht, hA⟩ := r
  have hA' := atInts_A2 hA hns
  have htt : s.heap.IsTuple a vs.toArray := ⟨_, ht, rfl, _, rfl⟩
  refine wpAny_pyIter_tuple htt ?_
  have hne : a ≠ s.heap.objs.size := Nat.ne_of_lt (Heap.lt_size ht)
  refine ⟨s.heap.objs.size, _, _, _, _, _, rfl, Walks.tuple hh s.heap.objs.size a hne vs.toArray, ?_, ⟨⟨_, Heap.get?_push_size _ rfl, rfl, rfl⟩, htt.push _⟩, ?_, ⟨?_, ?_⟩, ?_⟩
  · rw [A2.length_toArray hA', sizeLine_eq]; have := hq.1; lia
  · intro b hb
    have : b = s.heap.objs.size ∨ b = a := by simpa using hb
    rw [Heap.size_push]
    rcases this with rfl | rfl
    · exact Nat.lt_succ_self _
    · exact Nat.lt_succ_of_lt (Heap.lt_size ht)
  · intro C i v s₃ m₃ E' hv hn hm hk htk
    exact wpAny_pure ⟨rfl, s₃.heap, s₃.toks, rfl, fun _ _ e => e⟩
  · intro C i v s₃ m₃ E' hv _ hn hm hk htk
    have hi : i < ns.length := by
      have := (Array.getElem?_eq_some_iff.mp hv).1
      rw [A2.length_toArray hA'] at this; exact this
    obtain ⟨v', hv', t, e⟩ := A2.getA hA' (List.getElem?_eq_getElem hi)
    rw [hv] at hv'
    cases hv'
    subst e
    refine wpAny_UnaryOp (wpAny_Name (wpAny_loadName_local (by simp [compEnv, hkind]) hxl.1 hn hm ?_) hxl.2)
    exact neg_int ⟨fun i' t' e => by cases e; exact ⟨_, rfl⟩, s₃.heap, s₃.toks + 1, rfl, fun _ _ e => e⟩
  · intro Da h' tk ys us hD hl hpl hlen hP hF hk
    obtain ⟨kk, hDD⟩ := hpl
    have hD0 : s.heap.get? Da = none := by
      cases q : s.heap.get? Da with
      | none => rfl
      | some o => have := Heap.get?_push_of_some (h := s.heap) { cls := .type "tuple_iterator", dict := none, data := .fields #[.ref a, .int 0 0] } q; rw [this] at hD; cases hD
    have kk2 : ∀ b o, s.heap.get? b = some o → h'.get? b = some o := fun b o e => hk b o (fun hb => by
      have : b = s.heap.objs.size := by simpa using hb
      rw [this, get_size] at e; cases e) (Heap.get?_push_of_some _ e)
    have husA : A2 (fun v i => ∃ t, v = Value.int i t) us ns := by
      have : us = vs := by
        apply List.ext_getElem?
        intro j
        cases e : us[j]? with
        | some v =>
          have := hP j v e
          rw [List.getElem?_toArray] at this
          exact this.symm
        | none =>
          have h1 := List.getElem?_eq_none_iff.mp e
          rw [hlen, List.size_toArray] at h1
          exact (List.getElem?_eq_none_iff.mpr h1).symm
      rw [this]; exact hA'
    have hys : A2 (DR s.heap) ys.toList (ns.map fun k => D.a (.int (-k))) := by
      rw [List.filter_eq_self.mpr (fun _ _ => rfl)] at hF
      exact paired_neg hF husA
    exact ⟨h', tk, ρ ++ [Da], .ref H.length, _, rfl, Ext.alloc3 ρ hD0 kk2, x0.alloc3 kk2 hD0 hDD (o := .list (ns.map fun k => D.a (.int (-k)))) ⟨ys.toList, kk, by simp, hys⟩, ⟨Da, by rw [List.getElem?_append_right (by rw [x0.len]; exact Nat.le_refl _), x0.len]; simp, rfl⟩, hq.2⟩
end
end Mine

/-! M4d -/
namespace Mine
open PySem PySem.W PyProof.Rows PySem.Calls

section
variable {prog : Program} {w : World} {A : Around} {base : Heap} {L : Addr} {sc : Scope}
  {K : Frag} {p : Program} {loose : List Str} {mg mb : Str → Option Value} {Γ : Gam} {d : Nat} {nm : Str} {fa : Addr} {cd : Value}

theorem units_ok {n : Nat} (h : Amb A n) : A.units + 64 < cLine := by
  have h1 : cLine = 9900 := rfl
  have := h.units
  lia

theorem Post.mono' {E : Value → Shared → Prop} {s : Shared} {ρ ρ₁ : List Addr} {t : Sem Value} {Q : V → Hp → Prop} {h₁ : Heap} {tk : Nat} (e : Ext ρ s.heap ρ₁ h₁)
    (h : wpAny (model prog w) A t (Post w base ρ₁ { s with heap := h₁, toks := tk } Q) E { s with heap := h₁, toks := tk }) : wpAny (model prog w) A t (Post w base ρ s Q) E { s with heap := h₁, toks := tk } :=
  wpAny_mono h (fun _ _ q => q.trans e) fun _ _ x => x

theorem snd_subE {n : Nat} (hk : sc.kind = .function) (IE : SndE prog w A base L sc (envOf nm sc L fa cd) (okE sc n) (evE Γ n)) {o i : Expr} {pos : Pos} {m : Loc} {H : Hp} {Q : V → Hp → Prop}
    (ho : okE sc n o = true) (hi : okE sc n i = true) (hs : ∀ a b, subscripted i false a b = operate [a, b] (getItem a b))
    (he : evE Γ n o m H fun ov h1 => evE Γ n i m h1 fun iv h2 => getIt ov iv h2 fun r => Q r h2) (E : Value → Shared → Prop) (s : Shared) (ρ : List Addr) (mc : Str → Option Value) (R : StR w base L sc mc ρ m H s) :
    wpAny (model prog w) A (eval (.Subscript o i pos) (envOf nm sc L fa cd)) (Post w base ρ s Q) E s := by
  refine Subscript_ (Post.on R (IE o m H _ ho he E s ρ mc R) fun c v ρ₁ H₁ h₁ tk₁ e₁ R₁ r₁ q₁ => ?_)
  refine Post.on R₁ (IE i m H₁ _ hi q₁ E _ ρ₁ mc R₁) fun c2 v2 ρ₂ H₂ h₂ tk₂ e₂ R₂ r₂ q₂ => ?_
  exact Post.mono' (tk := tk₂) (e₁.trans e₂) (snd_getTail (hs _ _) q₂ R₂.hr (r₁.ext R₁.hr e₂) r₂)

theorem evE_SubI {n : Nat} {o i : Expr} {p : Pos} {m : Loc} {h : Hp} {Q : V → Hp → Prop} (hi : okI i = true) :
    evE Γ (n + 1) (.Subscript o i p) m h Q = evE Γ n o m h fun ov h1 => evE Γ n i m h1 fun iv h2 => getIt ov iv h2 fun r => Q r h2 := by
  cases i <;> first | rfl | exact Bool.noConfusion hi
theorem sub_plain {i : Expr} (hi : okI i = true) (a b : Value) : subscripted i false a b = operate [a, b] (getItem a b) := by
  cases i <;> first | rfl | exact Bool.noConfusion hi
theorem okCmp_true {a : Bool} {f : Expr → Bool} {ops : List CmpOp} {rs : List Expr} (h : (optB (onlyOf ops) fun op => optB (onlyOf rs) fun r => a && f r && !(behindInMarks op r)) = true) :
    ∃ op r, ops = [op] ∧ rs = [r] ∧ (a = true ∧ f r = true) ∧ behindInMarks op r = false := by
  obtain ⟨op, eo, ok⟩ := optB_true h
  replace ok := optB_true ok
  obtain ⟨r, er, ok⟩ := ok
  replace ok := and_true_of ok
  obtain ⟨ok1, ok2⟩ := ok
  exact ⟨op, r, onlyOf_some eo, onlyOf_some er, and_true_of ok1, by rwa [Bool.not_eq_true'] at ok2⟩
theorem snd_callE {n : Nat} (hk : sc.kind = .function) (G : Gd K p loose mg mb base) (GS : GSnd prog w K base Γ d) (hA : Amb A d) (IE : SndE prog w A base L sc (envOf nm sc L fa cd) (okE sc n) (evE Γ n)) {f : Str} {fp pos : Pos} {args : List Expr} {m : Loc} {H : Hp} {Q : V → Hp → Prop}
    (ok : (okN sc f .globalImplicit && okEs (okE sc n) args && (builtins.contains f || users.contains f)) = true)
    (he : evE Γ (n + 1) (.Call (.Name f fp) args [] pos) m H Q) (E : Value → Shared → Prop) (s : Shared) (ρ : List Addr) (mc : Str → Option Value) (R : StR w base L sc mc ρ m H s) :
    wpAny (model prog w) A (eval (.Call (.Name f fp) args [] pos) (envOf nm sc L fa cd)) (Post w base ρ s Q) E s := by
  simp only [Bool.and_eq_true] at ok
  rw [rvE_Call] at he
  obtain ⟨⟨o1, o2⟩, o3⟩ := ok
  obtain ⟨h1, h2⟩ := okN_iff o1
  refine wpAny_Call_ofName ?_
  by_cases hf : f ∈ builtins
  · obtain ⟨cf, hb, hkd, hn⟩ := builtin_kind hf
    refine name_B R.fr G.X G.T (G.nb f (.tail _ hf)) hb hn ?_ hk h1 h2
    refine callWith_top hkd o2 (PostL.on R (sndEs IE args H _ pos o2 he E s ρ mc R) fun cs vs ρ₁ H₁ h₁ tk₁ e₁ R₁ r₁ q₁ => ?_)
    unfold callF at q₁
    rw [if_pos hf] at q₁
    exact Post.mono' (tk := tk₁) e₁ (snd_callB hb q₁ R₁.hr r₁ hA.handled)
  · have hu : f ∈ users := by
      simp only [Bool.or_eq_true, List.contains_iff_mem] at o3
      exact o3.resolve_left hf
    obtain ⟨fb, hfb, hkp⟩ := G.us f hu
    refine name_K R.fr G.X G.T hfb ?_ hk h1 h2
    refine callWith_user G.X hkp o2 R.hr.keep (PostL.on R (sndEs IE args H _ pos o2 he E s ρ mc R) fun cs vs ρ₁ H₁ h₁ tk₁ e₁ R₁ r₁ q₁ => ⟨R₁.hr.keep, ?_⟩)
    unfold callF at q₁
    rw [if_neg hf] at q₁
    obtain ⟨r, h2, hg, hq⟩ := q₁
    refine GS f vs H₁ r h2 fb hg hfb A E _ { s with heap := h₁, toks := tk₁ } ρ₁ cs hA R₁.hr r₁ fun h3 tk3 ρ3 c e3 x3 r3 => ?_
    exact ⟨h3, tk3, ρ3, r, h2, rfl, e₁.trans e3, x3, r3, hq⟩

theorem sndET (hk : sc.kind = .function) (G : Gd K p loose mg mb base) (GS : GSnd prog w K base Γ d) (hA : Amb A d) : ∀ n,
    SndE prog w A base L sc (envOf nm sc L fa cd) (okE sc n) (evE Γ n) ∧ SndT prog w A base L sc (envOf nm sc L fa cd) (okT sc n) (evT Γ n) := by
  intro n
  induction n with
  | zero =>
    refine ⟨fun e m H Q ok he => ?_, fun e m H Q ok he => ?_⟩
    · exact (show False from he).elim
    · exact (show False from he).elim
  | succ n ih =>
    obtain ⟨IE, IT⟩ := ih
    have hE : SndE prog w A base L sc (envOf nm sc L fa cd) (okE sc (n + 1)) (evE Γ (n + 1)) := by
      intro e m H Q ok he E s ρ mc R
      cases e with
      | Constant c k pos =>
        rw [rvE_Const] at he
        cases c <;> simp only [constV] at he <;> first | exact he.elim | skip
        · exact wpAny_Constant_none (Post.here (v := .none) R.hr rfl he)
        · exact wpAny_Constant_bool (Post.bool R.hr he)
        · exact wpAny_Constant_int (Post.int R.hr _ he)
        · exact wpAny_Constant_str (Post.same (v := .str _) R.hr _ ⟨_, rfl⟩ he)
      | Name x pos =>
        replace ok : (if x = ("bool" : Str) then okN sc x .globalImplicit else okN sc x .local) = true := ok
        rw [rvE_Name] at he
        by_cases hb : x = ("bool" : Str)
        · rw [if_pos hb] at ok
          subst hb
          obtain ⟨h1, h2⟩ := okN_iff ok
          have hl : lget m (Str.ofString "bool") = none := by
            cases q : lget m (Str.ofString "bool") with
            | none => rfl
            | some v => have := (R.loc _ v q).1; rw [h1] at this; cases this
          rw [hl] at he
          dsimp only at he
          have ht : tyOf (Str.ofString "bool") = some "bool" := by unfold tyOf; rw [if_pos rfl]
          rw [ht] at he
          exact name_B R.fr G.X G.T (G.nb _ (.head _)) bb_bool (by decide) (Post.here (v := .ty "bool") R.hr rfl he) hk h1 h2
        · rw [if_neg hb] at ok
          obtain ⟨h1, h2⟩ := okN_iff ok
          cases q : lget m x with
          | none =>
            rw [q] at he
            dsimp only at he
            have ht : tyOf x = none := by unfold tyOf; rw [if_neg hb]
            rw [ht] at he
            exact he.elim
          | some v =>
            rw [q] at he
            exact snd_local hk R q he.1 h2 fun c r => Post.here R.hr r he.2
      | Tuple es k pos =>
        rw [rvE_Tuple] at he
        refine Tuple_ (PostL.on R (sndEs IE es H _ pos ok he E s ρ mc R) fun cs vs ρ₁ H₁ h₁ tk₁ e₁ R₁ r₁ q₁ => ?_)
        split at q₁
        · rename_i as ea
          have hA2 := atoms_A2 r₁ ea
          refine Post.mono' (tk := tk₁) e₁ (wpAny_newTuple ?_ (by rw [A2.length hA2, sizeLine_eq]; have := q₁.1; lia))
          exact Post.tup tk₁ R₁.hr (Ext.refl ..) hA2 q₁.2
        · exact q₁.elim
      | List es pos =>
        rw [rvE_List] at he
        refine List_ (PostL.on R (sndEs IE es H _ pos ok he E s ρ mc R) fun cs vs ρ₁ H₁ h₁ tk₁ e₁ R₁ r₁ q₁ => ?_)
        split at q₁
        · rename_i as ea
          have hA2 := datas_A2 r₁ ea
          refine Post.mono' (tk := tk₁) e₁ (wpAny_newList ?_ (by rw [A2.length hA2, sizeLine_eq]; have := q₁.1; lia))
          exact Post.list tk₁ R₁.hr (Ext.refl ..) hA2 q₁.2
        · exact q₁.elim
      | UnaryOp op e pos =>
        replace ok := and_true_of ok
        obtain ⟨ok0, ok⟩ := ok
        obtain rfl := okUS_true ok0
        rw [rvE_Unary] at he
        refine wpAny_UnaryOp (Post.on R (IE e m H _ ok he E s ρ mc R) fun c v ρ₁ H₁ h₁ tk₁ e₁ R₁ r₁ q₁ => ?_)
        refine Post.mono' (tk := tk₁) e₁ (wpAny_mono (snd_unop q₁ R₁.hr r₁) (fun c2 s2 q => ?_) fun _ _ x => x)
        obtain ⟨a1, a2, a3, a4, a5, a6, a7, a8, a9, a10, a11⟩ := q
        exact ⟨a1, a2, a3, a4, a5, a6, a7, a8, a9, by rw [a10]; exact a11⟩
      | BinOp l op r pos =>
        replace ok := and_true_of ok
        rw [rvE_Bin] at he
        refine wpAny_BinOp (Post.on R (IE l m H _ ok.1 he E s ρ mc R) fun c v ρ₁ H₁ h₁ tk₁ e₁ R₁ r₁ q₁ => ?_)
        refine Post.on R₁ (IE r m H₁ _ ok.2 q₁ E _ ρ₁ mc R₁) fun c2 v2 ρ₂ H₂ h₂ tk₂ e₂ R₂ r₂ q₂ => ?_
        exact Post.mono' (tk := tk₂) (e₁.trans e₂) (snd_binop q₂ R₂.hr (r₁.ext R₁.hr e₂) r₂)
      | Compare l ops rs pos =>
        replace ok := okCmp_true ok
        obtain ⟨op, r, rfl, rfl, ok⟩ := ok
        rw [rvE_Compare] at he
        refine wpAny_Compare1 (Post.on R (IE l m H _ ok.1.1 he E s ρ mc R) fun c v ρ₁ H₁ h₁ tk₁ e₁ R₁ r₁ q₁ => ?_) ok.2
        refine Post.on R₁ (IE r m H₁ _ ok.1.2 q₁ E _ ρ₁ mc R₁) fun c2 v2 ρ₂ H₂ h₂ tk₂ e₂ R₂ r₂ q₂ => ?_
        refine Post.mono' (tk := tk₂) (e₁.trans e₂) (wpAny_mono (snd_cmp q₂ R₂.hr (r₁.ext R₁.hr e₂) r₂ (units_ok hA)) (fun c3 s3 q => ?_) fun _ _ x => x)
        obtain ⟨b, tk, rfl, rfl, q⟩ := q
        exact Post.same (v := .bool b) R₂.hr tk rfl q
      | BoolOp op es pos =>
        rw [rvE_BoolOp] at he
        exact sndBo IE op pos es H Q ok he E s ρ mc R
      | IfExp t a b pos =>
        replace ok := and_true_of ok
        obtain ⟨ok1, ok2⟩ := ok
        replace ok := And.intro (and_true_of ok1) ok2
        rw [rvE_IfExp] at he
        refine wpAny_IfExp (PostB.on R (IT t m H _ ok.1.1 he E s ρ mc R) fun c ρ₁ H₁ h₁ tk₁ e₁ R₁ q₁ => ?_)
        cases c with
        | true => exact Post.mono' (tk := tk₁) e₁ (IE a m H₁ Q ok.1.2 (by simpa using q₁) E _ ρ₁ mc R₁)
        | false => exact Post.mono' (tk := tk₁) e₁ (IE b m H₁ Q ok.2 (by simpa using q₁) E _ ρ₁ mc R₁)
      | Subscript o i pos =>
        replace ok := and_true_of ok
        obtain ⟨oo, oi⟩ := ok
        replace oi := Bool.or_eq_true_iff.mp oi
        rcases oi with oi | oi
        rotate_left 1
        · obtain ⟨oi1, oi2⟩ := and_true_of oi
          exact snd_subE hk IE oo oi2 (sub_plain oi1) (evE_SubI oi1 ▸ he) E s ρ mc R
        replace oi := okSl_true oi
        obtain ⟨lo, hi, p1, rfl, oi⟩ := oi
        have ok := And.intro oo oi
        rw [rvE_Slice] at he
        refine Subscript_ (Post.on R (IE o m H _ ok.1 he E s ρ mc R) fun c v ρ₁ H₁ h₁ tk₁ e₁ R₁ r₁ q₁ => ?_)
        refine wpAny_Slice (sndPart IE ok.2.1 q₁ R₁ fun cl l ρ₂ H₂ h₂ tk₂ e₂ R₂ r₂ q₂ => ?_)
        refine sndPart IE ok.2.2 q₂ R₂ fun cu u ρ₃ H₃ h₃ tk₃ e₃ R₃ r₃ q₃ => ?_
        rw [evalPart_none]
        refine wpAny_pure ?_
        have hr4 := R₃.hr.push { cls := .type "slice", dict := none, data := .fields #[cl, cu, .none] }
        have e4 := e₁.trans (e₂.trans (e₃.trans (Ext.push ρ₃ h₃ { cls := .type "slice", dict := none, data := .fields #[cl, cu, .none] })))
        refine Post.mono' (tk := tk₃) e4 (snd_getSl (H := H₃) q₃ hr4 ?_ r₂ r₃ (Heap.IsSliceOf.new ..))
        exact ((r₁.ext R₁.hr e₂).ext R₂.hr e₃).ext R₃.hr (Ext.push ..)
      | Call f args ks pos =>
        replace ok := optB_true ok
        obtain ⟨_, ek, ok⟩ := ok
        obtain rfl := nilOf_some ek
        replace ok := Bool.or_eq_true_iff.mp ok
        rcases ok with ok | ok
        rotate_left 1
        · obtain ⟨g, eg, ok⟩ := optB_true ok
          obtain ⟨fp, rfl⟩ := nameOf_some eg
          exact snd_callE hk G GS hA IE ok he E s ρ mc R
        replace ok := optB_true ok
        obtain ⟨⟨o, name, apos⟩, ef, ok⟩ := ok
        obtain rfl := methOf_some ef
        replace ok := and_true_of ok
        obtain ⟨ok1, ok⟩ := ok
        obtain ⟨ok1, ok2⟩ := and_true_of ok1
        obtain ⟨y, ey⟩ := Option.isSome_iff_exists.mp ok1
        obtain ⟨q, rfl⟩ := nameOf_some ey
        replace ok := optB_true ok
        obtain ⟨a, ea, ok⟩ := ok
        obtain rfl := onlyOf_some ea
        replace ok := and_true_of ok
        obtain ⟨ok3, ok4⟩ := ok
        dsimp only at ok2 ok4
        rw [rvE_Meth] at he
        obtain ⟨a1, _, a3⟩ := okEs_cons ok3
        have o1 := ok2
        have o3 := ok4
        have tr : backTo pos (starEach [a] (envOf nm sc L fa cd)) = [(false, eval a (envOf nm sc L fa cd))] := by rw [a3]; rfl
        refine wpAny_Call_method_late rfl (by rw [tr]; rfl) o3 tr (Post.on R (IE _ m H _ o1 he E s ρ mc R) fun c v ρ₁ H₁ h₁ tk₁ e₁ R₁ r₁ q₁ => ?_)
        refine snd_methOn q₁.1 R₁.hr r₁ (callWith_builtin rfl (evalArgs_plain (spliced_cons ?_)))
        have q2 := q₁.2
        simp only [evEs] at q2
        refine Post.on R₁ (IE a m H₁ _ a1 q2 E _ ρ₁ mc R₁) fun c2 v2 ρ₂ H₂ h₂ tk₂ e₂ R₂ r₂ q₂ => ?_
        refine spliced_nil ?_
        exact Post.mono' (tk := tk₂) (e₁.trans e₂) (snd_meth q₂ R₂.hr (r₁.ext R₁.hr e₂) ⟨r₂, trivial⟩)
      | ListComp e gs cs pos =>
        replace ok := optB_true ok
        obtain ⟨⟨y, x, it, q⟩, hq, ok⟩ := ok
        obtain ⟨p1, p2, px, rfl, rfl⟩ := compOf_some hq
        dsimp only at ok
        simp only [Bool.and_eq_true, beq_iff_eq, decide_eq_true_eq] at ok
        obtain ⟨⟨⟨⟨rfl, o2⟩, o3⟩, o4⟩, o5⟩ := ok
        rw [rvE_Comp] at he
        obtain ⟨_, he⟩ := he
        cases n with
        | zero => exact (show False from he).elim
        | succ n =>
          rw [rvE_Name] at he
          replace o2 : (if it = ("bool" : Str) then okN sc it .globalImplicit else okN sc it .local) = true := o2
          by_cases hb : it = ("bool" : Str)
          · rw [if_pos hb] at o2
            subst hb
            obtain ⟨h1, h2⟩ := okN_iff o2
            have hl : lget m (Str.ofString "bool") = none := by
              cases q : lget m (Str.ofString "bool") with
              | none => rfl
              | some v => have := (R.loc _ v q).1; rw [h1] at this; cases this
            rw [hl] at he
            dsimp only at he
            have ht : tyOf (Str.ofString "bool") = some "bool" := by unfold tyOf; rw [if_pos rfl]
            rw [ht] at he
            exact he.elim
          · rw [if_neg hb] at o2
            obtain ⟨h1, h2⟩ := okN_iff o2
            cases qv : lget m it with
            | none =>
              rw [qv] at he
              dsimp only at he
              have ht : tyOf it = none := by unfold tyOf; rw [if_neg hb]
              rw [ht] at he
              exact he.elim
            | some v =>
              rw [qv] at he
              dsimp only at he
              obtain ⟨hv, he⟩ := he
              split at he
              · rename_i as
                split at he
                · rename_i ns e
                  exact snd_comp hA.handled o3 o4 o5 he e R.hr fun Q' k => snd_local hk R qv hv h2 k
                · exact he.elim
              · exact he.elim
      | _ => exact Bool.noConfusion ok
    refine ⟨hE, ?_⟩
    have plain : ∀ (e : Expr) (m : Loc) (H : Hp) (Q : Bool → Hp → Prop), okE sc n e = true → (isTrue e (envOf nm sc L fa cd) (eval e (envOf nm sc L fa cd)) = (do let v ← eval e (envOf nm sc L fa cd); standAt e.pos; holding [v] (truthy v))) →
        (evE Γ n e m H fun v h' => match v with | .d (.a (.bool b)) => Q b h' | _ => False) → ∀ (E : Value → Shared → Prop) (s : Shared) ρ mc, StR w base L sc mc ρ m H s → wpAny (model prog w) A (isTrue e (envOf nm sc L fa cd) (eval e (envOf nm sc L fa cd))) (PostB w base ρ s Q) E s := by
      intro e m H Q ok hs he E s ρ mc R
      refine isTrue_plain (Post.on R (IE e m H _ ok he E s ρ mc R) fun c v ρ₁ H₁ h₁ tk₁ e₁ R₁ r₁ q₁ => ?_) hs
      split at q₁
      · rename_i b
        cases r₁
        exact wpAny_truthy_bool ⟨h₁, tk₁, ρ₁, H₁, rfl, e₁, R₁.hr, q₁⟩
      · exact q₁.elim
    intro e m H Q ok he E s ρ mc R
    cases e with
    | UnaryOp op x pos =>
      replace ok := and_true_of ok
      obtain ⟨ok0, ok⟩ := ok
      obtain rfl := okNt_true ok0
      rw [rvT_Not] at he
      exact wpAny_isTrue_Not (wpAny_mono (IT x m H _ ok he E s ρ mc R) (fun _ _ ⟨a, b, c, d, e0, e1, e2, e3⟩ => ⟨a, b, c, d, e0, e1, e2, e3⟩) fun _ _ x => x)
    | BoolOp op es pos =>
      rw [rvT_BoolOp] at he
      exact wpAny_isTrue_BoolOp (sndAll IT op es H Q ok he E s ρ mc R)
    | Compare l ops rs pos =>
      replace ok := okCmp_true ok
      obtain ⟨op, r, rfl, rfl, ok⟩ := ok
      rw [rvT_Compare] at he
      refine wpAny_isTrue_Compare1 (Post.on R (IE l m H _ ok.1.1 he E s ρ mc R) fun c v ρ₁ H₁ h₁ tk₁ e₁ R₁ r₁ q₁ => ?_) ok.2
      refine Post.on R₁ (IE r m H₁ _ ok.1.2 q₁ E _ ρ₁ mc R₁) fun c2 v2 ρ₂ H₂ h₂ tk₂ e₂ R₂ r₂ q₂ => ?_
      refine wpAny_mono (snd_cmp q₂ R₂.hr (r₁.ext R₁.hr e₂) r₂ (units_ok hA)) (fun c3 s3 q => ?_) fun _ _ x => x
      obtain ⟨b, tk, rfl, rfl, q⟩ := q
      exact wpAny_truthy_bool ⟨h₂, tk, ρ₂, H₂, rfl, e₁.trans e₂, R₂.hr, q⟩
    | Name x p =>
      rw [rvT_Name] at he
      exact plain _ m H Q ok rfl he E s ρ mc R
    | Call f as ks p =>
      rw [rvT_Call] at he
      exact plain _ m H Q ok rfl he E s ρ mc R
    | Constant c k p =>
      rw [rvT_Const] at he
      exact plain _ m H Q ok rfl he E s ρ mc R
    | _ => exact Bool.noConfusion ok
end
end Mine

/-! M5 -/
namespace Mine
open PySem PySem.W PyProof.Rows PySem.Calls

noncomputable def notComp : Expr → Bool
  | .ListComp .. | .SetComp .. | .DictComp .. => false
  | _ => true
noncomputable def isCall : Expr → Bool
  | .Call .. => true
  | _ => false
noncomputable def notSet : Expr → Bool
  | .Name .. | .Call .. => true
  | _ => false

theorem inOf_some {op : CmpOp} {u : Unit} (h : inOf op = some u) : op = .In := by
  cases op <;> first | rfl | exact nomatch (show none = some u from h)
theorem cmpOf_some {e : Expr} {x : Expr × List CmpOp × List Expr} (h : cmpOf e = some x) : ∃ p, e = .Compare x.1 x.2.1 x.2.2 p := by
  have q := eh_is e
  revert q h
  unfold cmpOf
  generalize eh e = w
  intro h q
  cases w <;> first | exact nomatch (show none = some _ from h) | (cases h; exact q)
theorem ifOf_some {s : Stmt} {z : Expr × List Stmt × List Stmt} (h : ifOf s = some z) : ∃ p, s = .If z.1 z.2.1 z.2.2 p := by
  cases s <;> first | exact nomatch (show none = some z from h) | (cases h; exact ⟨_, rfl⟩)
theorem retOf_some {s : Stmt} {e : Expr} (h : retOf s = some e) : ∃ p, s = .Return (some e) p := by
  cases s <;> first | exact nomatch (show none = some e from h) | (cases (show _ = some e from h); exact ⟨_, rfl⟩)
theorem constOf_some {e : Expr} {x : Const} (h : constOf e = some x) : ∃ k p, e = .Constant x k p := by
  have q := eh_is e
  revert q h
  unfold constOf
  generalize eh e = w
  intro h q
  cases w <;> first | exact nomatch (show none = some _ from h) | (cases h; exact q)
theorem trueOf_some {c : Const} {u : Unit} (h : trueOf c = some u) : c = .bool true := by
  cases c <;> first | exact nomatch (show none = some u from h) | skip
  rename_i b
  cases b
  · cases h
  · rfl
theorem headOf_some {α : Type} {l : List α} {z : α × List α} (h : headOf l = some z) : l = z.1 :: z.2 := by
  cases l with
  | nil => cases h
  | cons _ _ => cases h; rfl
theorem inTail_some {ops : List CmpOp} {rs : List Expr} {y : Str} (hh : inTail ops rs = some y) : ∃ p, ops = [.In] ∧ rs = [.Name y p] := by
  obtain ⟨op, h1, k1⟩ := Option.bind_eq_some_iff.mp hh
  obtain ⟨_, h2, k2⟩ := Option.bind_eq_some_iff.mp k1
  obtain ⟨r, h3, h4⟩ := Option.bind_eq_some_iff.mp k2
  obtain ⟨p, e⟩ := nameOf_some h4
  exact ⟨p, by rw [onlyOf_some h1, inOf_some h2], by rw [onlyOf_some h3, e]⟩
theorem negTest_some {t : Expr} {z : Str × Str} (hh : negTest t = some z) : ∃ p1 p2 p3 p4, t = .Compare (.UnaryOp .USub (.Name z.1 p1) p2) [.In] [.Name z.2 p3] p4 := by
  obtain ⟨⟨l, ops, rs⟩, h1, k1⟩ := Option.bind_eq_some_iff.mp hh
  obtain ⟨l1, h2, k2⟩ := Option.bind_eq_some_iff.mp k1
  obtain ⟨x, h3, k3⟩ := Option.bind_eq_some_iff.mp k2
  obtain ⟨y, h4, k4⟩ := Option.bind_eq_some_iff.mp k3
  obtain ⟨p4, a1⟩ := cmpOf_some h1
  obtain ⟨p2, a2⟩ := usubOf_some h2
  obtain ⟨p1, a3⟩ := nameOf_some h3
  obtain ⟨p3, a4, a5⟩ := inTail_some h4
  dsimp only at a1 a2 a4 a5
  cases k4
  exact ⟨p1, p2, p3, p4, by rw [a1, a2, a3, a4, a5]⟩
theorem retTrue_some {c : List Stmt} {u : Unit} (hh : retTrue c = some u) : ∃ k p5 p6, c = [.Return (some (.Constant (.bool true) k p5)) p6] := by
  obtain ⟨s, h1, k1⟩ := Option.bind_eq_some_iff.mp hh
  obtain ⟨v, h2, k2⟩ := Option.bind_eq_some_iff.mp k1
  obtain ⟨k, h3, h4⟩ := Option.bind_eq_some_iff.mp k2
  obtain ⟨p6, a2⟩ := retOf_some h2
  obtain ⟨n, p5, a3⟩ := constOf_some h3
  exact ⟨n, p5, p6, by rw [onlyOf_some h1, a2, a3, trueOf_some h4]⟩
theorem negIf_some {s : Stmt} {z : Str × Str} (hh : negIf s = some z) :
    ∃ p1 p2 p3 p4 k p5 p6 p7, s = .If (.Compare (.UnaryOp .USub (.Name z.1 p1) p2) [.In] [.Name z.2 p3] p4) [.Return (some (.Constant (.bool true) k p5)) p6] [] p7 := by
  obtain ⟨⟨t, c, o⟩, h1, k1⟩ := Option.bind_eq_some_iff.mp hh
  obtain ⟨z1, h2, k2⟩ := Option.bind_eq_some_iff.mp k1
  obtain ⟨_, h3, k3⟩ := Option.bind_eq_some_iff.mp k2
  obtain ⟨_, h4, k4⟩ := Option.bind_eq_some_iff.mp k3
  obtain ⟨p7, a1⟩ := ifOf_some h1
  obtain ⟨p1, p2, p3, p4, a2⟩ := negTest_some h2
  obtain ⟨k, p5, p6, a3⟩ := retTrue_some h3
  have a4 := nilOf_some h4
  dsimp only at a1 a2 a3 a4
  cases k4
  exact ⟨p1, p2, p3, p4, k, p5, p6, p7, by rw [a1, a2, a3, a4]⟩
theorem negOf_some {it : Expr} {b : List Stmt} {y x' y' : Str} (hh : negOf it b = some (y, x', y')) :
    ∃ py p1 p2 p3 p4 k p5 p6 p7, it = .Name y py ∧ b = [.If (.Compare (.UnaryOp .USub (.Name x' p1) p2) [.In] [.Name y' p3] p4) [.Return (some (.Constant (.bool true) k p5)) p6] [] p7] := by
  obtain ⟨y0, h1, k1⟩ := Option.bind_eq_some_iff.mp hh
  obtain ⟨⟨s, r⟩, h2, k2⟩ := Option.bind_eq_some_iff.mp k1
  obtain ⟨z, h3, k3⟩ := Option.bind_eq_some_iff.mp k2
  obtain ⟨_, h4, k4⟩ := Option.bind_eq_some_iff.mp k3
  obtain ⟨py, a1⟩ := nameOf_some h1
  have a2 := headOf_some h2
  obtain ⟨p1, p2, p3, p4, k, p5, p6, p7, a3⟩ := negIf_some h3
  have a4 := nilOf_some h4
  dsimp only at a2 a3 a4
  cases k4
  exact ⟨py, p1, p2, p3, p4, k, p5, p6, p7, a1, by rw [a2, a3, a4]⟩
noncomputable def subOf (e : Expr) : Option (Expr × Expr) := match eh e with
  | .sub o i => some (o, i)
  | _ => none
theorem subOf_some {e : Expr} {x : Expr × Expr} (h : subOf e = some x) : ∃ p, e = .Subscript x.1 x.2 p := by
  have q := eh_is e
  revert q h
  unfold subOf
  generalize eh e = w
  intro h q
  cases w <;> first | exact nomatch (show none = some _ from h) | (cases h; exact q)
noncomputable def tupOf (e : Expr) : Option (List Expr) := match eh e with
  | .tup es => some es
  | _ => none
theorem tupOf_some {e : Expr} {x : List Expr} (h : tupOf e = some x) : ∃ k p, e = .Tuple x k p := by
  have q := eh_is e
  revert q h
  unfold tupOf
  generalize eh e = w
  intro h q
  cases w <;> first | exact nomatch (show none = some _ from h) | (cases h; exact q)
noncomputable def intOf : Const → Option Int
  | .int i => some i
  | _ => none
theorem intOf_some {c : Const} {i : Int} (h : intOf c = some i) : c = .int i := by
  cases c <;> first | exact nomatch (show none = some i from h) | (cases h; rfl)
mutual
noncomputable def okS (sc : Scope) : Nat → Stmt → Bool
  | 0, _ => false
  | n + 1, s => match s with
    | .Expr e _ => isCall e && okE sc n e
    | .Assign ts e _ => optB (onlyOf ts) fun t => ((optB (nameOf t) fun x => okN sc x .local && okE sc n e && notComp e) ||
        (optB (tupOf t) fun es => optB (headOf es) fun z => optB (nameOf z.1) fun x => optB (onlyOf z.2) fun b => optB (nameOf b) fun y => okN sc x .local && okN sc y .local && okE sc n e && isCall e)) ||
        (optB (subOf t) fun z => okE sc n z.1 && okE sc n z.2 && okE sc n e && notComp e)
    | .AugAssign t _ e _ => (optB (nameOf t) fun x => okN sc x .local && okE sc n e) || (optB (subOf t) fun z => optB (constOf z.2) fun c => optB (intOf c) fun _ => okE sc n z.1 && okE sc n e)
    | .If t b o _ => okT sc n t && okB sc n b && okB sc n o
    | .While t b o _ => optB (nilOf o) fun _ => okT sc n t && okB sc n b
    | .For t it b o _ => optB (nilOf o) fun _ => optB (nameOf t) fun x => (optB (negOf it b) fun z => okN sc x .local && okN sc z.1 .local) ||
        ((negOf it b).isNone && (okN sc x .local && okE sc n it && okB sc n b && notSet it))
    | .Return v _ => optB v fun e => okE sc n e
    | _ => false
noncomputable def okB (sc : Scope) : Nat → List Stmt → Bool
  | 0, _ => false
  | n + 1, ss => match ss with
    | [] => true
    | s :: rest => okS sc n s && okB sc n rest
end

noncomputable def FR (h : Heap) (ρ : List Addr) : Flow → Fl → Prop
  | .next, .next => True
  | .ret c, .ret v => VR h ρ c v
  | _, _ => False

inductive PostS (w : World) (base : Heap) (L : Addr) (sc : Scope) (ρ : List Addr) (s : Shared) (Q : Fl → Loc → Hp → Prop) (f : Flow) (s' : Shared) : Prop
  | mk (h' : Heap) (tk' : Nat) (ρ' : List Addr) (mc' : Str → Option Value) (m' : Loc) (H' : Hp) (fl : Fl) (e0 : s' = { s with heap := h', toks := tk' }) (e1 : ExtL L ρ s.heap ρ' h') (e2 : StR w base L sc mc' ρ' m' H' { s with heap := h', toks := tk' }) (e3 : FR h' ρ' f fl) (e4 : Q fl m' H') : PostS w base L sc ρ s Q f s'

section
variable {prog : Program} {w : World} {A : Around} {E : Value → Shared → Prop} {s : Shared} {base : Heap} {ρ ρ' : List Addr} {H H' : Hp} {L : Addr} {sc : Scope} {mc : Str → Option Value} {m : Loc} {h h' : Heap} {tk : Nat}
  {K : Frag} {p : Program} {loose : List Str} {mg mb : Str → Option Value} {Γ : Gam} {d : Nat} {nm : Str} {fa : Addr} {cd : Value} {n : Nat}

theorem swaps_no {e : Expr} (h : notComp e = true) (t : Option Expr) (l : Nat) (env : Env) : swapsWith e t l env = pure false := by
  cases e <;> first | rfl | exact Bool.noConfusion h
theorem notComp_call {e : Expr} (h : isCall e = true) : notComp e = true := by
  cases e <;> first | rfl | exact Bool.noConfusion h

theorem lget_lset {x y : Str} {v : V} : ∀ {m : Loc}, (lget m x).isSome = true → lget (lset m x v) y = if y = x then some v else lget m y
  | [], h => by simp [lget] at h
  | (z, u) :: r, h => by
    unfold lset
    by_cases hx : x = z
    · subst hx
      rw [if_pos rfl]
      unfold lget
      by_cases hy : y = x
      · simp [hy]
      · simp [hy]
    · rw [if_neg hx]
      have h' : (lget r x).isSome = true := by
        unfold lget at h
        rw [if_neg hx] at h
        exact h
      unfold lget
      by_cases hy : y = z
      · subst hy
        rw [if_pos rfl, if_neg (fun e => hx e.symm), if_pos rfl]
      · rw [if_neg hy, if_neg hy]
        exact lget_lset h'

/-- a heap that differs at one object alone, which is neither tracked nor lasting -/
theorem HR.but (x : HR w base ρ H h) {oL : Obj} (hL : h.get? L = some oL) (hd : ¬ Imm oL) (ht : ¬ tracked oL) (hb : base.get? L = none) (hs : Heap.ExtBut L h h') :
    HR w base ρ H h' ∧ ∀ {v : Value} {d : V}, VR h ρ v d → VR h' ρ v d := by
  have k : ∀ b o, h.get? b = some o → b ∉ ρ → Imm o → h'.get? b = some o := fun b o e _ n => hs b o (fun z => by
    subst z; rw [hL] at e; cases e; exact hd n) e
  have hLρ : L ∉ ρ := x.untracked hL ht
  refine ⟨⟨x.len, x.nd, fun i o e => ?_, x.off, fun b o e => hs b o (fun z => by subst z; rw [hb] at e; cases e) (x.keep b o e)⟩, fun r => r.keep x ⟨[], by simp⟩ k⟩
  obtain ⟨a, c, h1, h2, h3⟩ := x.obj i o e
  exact ⟨a, c, h1, hs a c (fun z => hLρ (z ▸ List.mem_of_getElem? h1)) h2, h3.keep x k⟩

theorem base_none (F : Fr base L h mc) : base.get? L = none := by
  cases q : base.get? L with
  | none => rfl
  | some o => exact absurd (Heap.lt_size q) (Nat.not_lt.mpr F.above)

/-- a local is bound -/
theorem snd_store {x : Str} {v : V} {c : Value} {Q : Unit → Shared → Prop} (hk : sc.kind = .function) (R : StR w base L sc mc ρ m H s) (hx : sc.names.lookup x = some .local) (hm : hasL m x) (r : VR s.heap ρ c v)
    (h : ∀ h' mc', Heap.SameBut L s.heap h' → ExtL L ρ s.heap ρ h' → StR w base L sc mc' ρ (lset m x v) H { s with heap := h', toks := s.toks + 1 } → (∀ {c : Value} {v : V}, VR s.heap ρ c v → VR h' ρ c v) → Q () { s with heap := h', toks := s.toks + 1 }) :
    wpAny (model prog w) A (storeName (envOf nm sc L fa cd) x c) Q E s := by
  refine wpAny_storeName_local hx R.fr.ns (fun h' hn hs => ?_) (by show (sc.kind == .class || (sc.kind == .module && L != mainGlobals)) = false; rw [hk]; rfl)
  obtain ⟨oL, es, ep, hL, hd, r2⟩ := R.fr.ns
  have hs' : Heap.SameBut L s.heap h' := hs
  obtain ⟨x1, x2⟩ := R.hr.but hL (by rintro (⟨_, _, _, e⟩ | ⟨_, _, e⟩) <;> rw [hd] at e <;> cases e) (fun t => t.2 _ _ hd) (base_none R.fr) hs'.extBut
  refine h h' _ hs' ⟨⟨[], by simp⟩, fun _ h => .inl h, fun b o e _ n => (hs'.2 b n).trans e⟩ ⟨R.fr.set hn hs', x1, fun y u e => ?_⟩ x2
  rw [lget_lset hm] at e
  by_cases hy : y = x
  · subst hy
    rw [if_pos rfl] at e
    cases e
    exact ⟨hx, .inr ⟨c, by simp, x2 r⟩⟩
  · rw [if_neg hy] at e
    obtain ⟨a, b⟩ := R.loc y u e
    refine ⟨a, b.imp id fun ⟨c', hc', r'⟩ => ⟨c', by rw [if_neg hy]; exact hc', x2 r'⟩⟩

theorem StR.of_heap (R : StR w base L sc mc ρ m H s) {s' : Shared} (e : s'.heap = s.heap) : StR w base L sc mc ρ m H s' :=
  ⟨by rw [e]; exact R.fr, by rw [e]; exact R.hr, by rw [e]; exact R.loc⟩

theorem PostS.trans {Q : Fl → Loc → Hp → Prop} {f : Flow} {s' : Shared} (hL : L ∉ ρ') (e : ExtL L ρ s.heap ρ' h') (q : PostS w base L sc ρ' { s with heap := h', toks := tk } Q f s') : PostS w base L sc ρ s Q f s' := by
  obtain ⟨h2, tk2, ρ2, mc2, m2, H2, fl, rfl, e2, R2, r2, q2⟩ := q
  exact ⟨h2, tk2, ρ2, mc2, m2, H2, fl, rfl, e.trans hL e2 (StR.notIn (s := { s with heap := h2, toks := tk2 }) R2), R2, r2, q2⟩

/-- a weaker state -/
theorem StR.weak (R : StR w base L sc mc ρ m H s) {n : Nat} {m' : Loc} (hw : Weak n m m') : StR w base L sc mc (ρ.take n) m' (H.take n) s where
  fr := R.fr
  hr := R.hr.take n
  loc := fun x v e => by
    obtain ⟨u, hu, hv⟩ := hw x v e
    obtain ⟨h1, h2⟩ := R.loc x u hu
    refine ⟨h1, ?_⟩
    rcases hv with rfl | ⟨rfl, hb⟩
    · exact .inl rfl
    · exact h2.imp id fun ⟨c, hc, r⟩ => ⟨c, hc, r.take hb⟩
end
end Mine

/-! M5b -/
namespace Mine
open PySem PySem.W PyProof.Rows PySem.Calls

/-- how an iterator draws -/
structure Dr (prog : Program) (w : World) (A : Around) (base : Heap) (I : Addr) (ρ₀ : List Addr) (ok : Hp → Prop) (items : List V) (St : Nat → Heap → Prop) : Prop where
  iter : ∀ k h, St k h → ∃ o, h.get? I = some o ∧ ¬ Imm o ∧ ¬ tracked o ∧ ∀ es ep, o.data ≠ .dict es ep
  frame : ∀ k h h', St k h → (∀ o, h.get? I = some o → h'.get? I = some o) → (∀ b o, h.get? b = some o → Imm o → h'.get? b = some o) → St k h'
  item : ∀ k v (s : Shared) (Q : Option Value → Shared → Prop) (E : Value → Shared → Prop) r H, items[k]? = some v → St k s.heap → HR w base (ρ₀ ++ r) H s.heap → ok H →
    (∀ c h' tk, VR s.heap (ρ₀ ++ r) c v → St (k + 1) h' → Heap.ExtBut I s.heap h' → Q (some c) { s with heap := h', toks := tk }) → wpAny (model prog w) A (pyNext (.ref I)) Q E s
  done : ∀ (s : Shared) (Q : Option Value → Shared → Prop) (E : Value → Shared → Prop) r H, St items.length s.heap → HR w base (ρ₀ ++ r) H s.heap → ok H →
    (∀ h' tk, Heap.ExtBut I s.heap h' → Q none { s with heap := h', toks := tk }) → wpAny (model prog w) A (pyNext (.ref I)) Q E s

section
variable {prog : Program} {w : World} {A : Around} {E : Value → Shared → Prop} {s : Shared} {base : Heap} {ρ ρ' : List Addr} {H H' : Hp} {L : Addr} {sc : Scope} {mc : Str → Option Value} {m : Loc} {h h' : Heap} {tk : Nat}
  {K : Frag} {p : Program} {loose : List Str} {mg mb : Str → Option Value} {Γ : Gam} {d : Nat} {nm : Str} {fa : Addr} {cd : Value} {n : Nat}

theorem StR.but (R : StR w base L sc mc ρ m H s) {I : Addr} {oL : Obj} (hI : s.heap.get? I = some oL) (h1 : ¬ Imm oL) (h2 : ¬ tracked oL) (h3 : ∀ es ep, oL.data ≠ .dict es ep) (hb : base.get? I = none) (hs : Heap.ExtBut I s.heap h') :
    StR w base L sc mc ρ m H { s with heap := h', toks := tk } ∧ ∀ {v : Value} {d : V}, VR s.heap ρ v d → VR h' ρ v d := by
  obtain ⟨x1, x2⟩ := R.hr.but hI h1 h2 hb hs
  refine ⟨⟨?_, x1, fun x v e => ?_⟩, x2⟩
  · obtain ⟨oL', es, ep, a, b, r⟩ := R.fr.ns
    have : L ≠ I := by rintro rfl; rw [hI] at a; cases a; exact h3 _ _ b
    exact ⟨⟨oL', es, ep, hs L oL' this a, b, r⟩, x1.keep, R.fr.above⟩
  · obtain ⟨a, b⟩ := R.loc x v e
    exact ⟨a, b.imp id fun ⟨c, hc, r⟩ => ⟨c, hc, x2 r⟩⟩

theorem extL_but {I : Addr} {s₀ : Heap} (hs0 : s₀.get? I = none) (e : ExtL L ρ s₀ ρ' h) (hs : Heap.ExtBut I h h') : ExtL L ρ s₀ ρ' h' :=
  ⟨e.pre, e.new, fun b o q n l => hs b o (fun z => by subst z; rw [hs0] at q; cases q) (e.keep b o q n l)⟩

/-- what is shown of a block -/
noncomputable def SndB (prog : Program) (w : World) (A : Around) (base : Heap) (L : Addr) (sc : Scope) (env : Env) (b : List Stmt) (ev : Loc → Hp → (Fl → Loc → Hp → Prop) → Prop) : Prop :=
  ∀ m H Q, ev m H Q → ∀ (E : Value → Shared → Prop) (s : Shared) ρ mc, StR w base L sc mc ρ m H s → wpAny (model prog w) A (execs b env) (PostS w base L sc ρ s Q) E s

inductive IFor (w : World) (base : Heap) (L : Addr) (sc : Scope) (s₀ : Shared) (ρ : List Addr) (items : List V) (St : Nat → Heap → Prop) (J : Nat → Loc → Hp → Prop) (N : Nat) (s : Shared) : Prop
  | mk (k : Nat) (r : List Addr) (mc' : Str → Option Value) (m' : Loc) (H' : Hp) (h' : Heap) (tk' : Nat) (e0 : N = items.length - k) (e1 : k ≤ items.length) (e2 : s = { s₀ with heap := h', toks := tk' }) (e3 : ExtL L ρ s₀.heap (ρ ++ r) h')
    (e4 : StR w base L sc mc' (ρ ++ r) m' H' { s₀ with heap := h', toks := tk' }) (e5 : St k h') (e6 : J k m' H') : IFor w base L sc s₀ ρ items St J N s
theorem snd_for {x : Str} {px : Pos} {body : List Stmt} {I : Addr} {ok : Hp → Prop} {items : List V} {St : Nat → Heap → Prop} {n₀ : Nat} {ev : Loc → Hp → (Fl → Loc → Hp → Prop) → Prop} {Q : Fl → Loc → Hp → Prop} {R' : Result → Shared → Prop} {s₀ : Shared} {tk₀ : Nat} {h₁ : Heap}
    (hk : sc.kind = .function) (hx : sc.names.lookup x = some .local) (B : SndB prog w A base L sc (envOf nm sc L fa cd) body ev)
    (D : Dr prog w A base I ρ ok items St) (hn : n₀ = ρ.length) (ht : turns (fun v m h Q => hasL m x ∧ ev (lset m x v) h Q) ok n₀ items m H Q)
    (R : StR w base L sc mc ρ m H { s₀ with heap := h₁, toks := tk₀ }) (hI : s₀.heap.get? I = none) (e : ExtL L ρ s₀.heap ρ h₁) (hst : St 0 h₁) (hbI : base.get? I = none)
    (hR : ∀ f s', PostS w base L sc ρ s₀ Q f s' → R' (.ok f) s') :
    codeAny (model prog w) A (.forLoop (.Name x px) (.ref I) body [] (envOf nm sc L fa cd)) R' { s₀ with heap := h₁, toks := tk₀ } := by
  obtain ⟨J, j0, jok, jturn, jend⟩ := ht
  refine codeAny_forLoop (IFor w base L sc s₀ ρ items St J) ?_ items.length
    ⟨0, [], mc, m, H, h₁, tk₀, rfl, Nat.zero_le _, rfl, by rw [List.append_nil]; exact e, by rw [List.append_nil]; exact R, hst, j0⟩
  rintro N s ⟨k, r, mc', m', H', h', tk', rfl, hk', rfl, e1, R1, st1, t1⟩
  obtain ⟨oI, hoI, hi1, hi2, hi3⟩ := D.iter k _ st1
  have lift : ∀ (ha hb : Heap) (ρa ρb : List Addr) {mca : Str → Option Value} {ma : Loc} {Ha : Hp} {sa : Shared} (j : Nat) (_ : Nat), St j ha → StR w base L sc mca ρa ma Ha { sa with heap := ha } → ExtL L ρa ha ρb hb → St j hb := by
    intro ha hb ρa ρb mca ma Ha sa j _ sta Ra ea
    obtain ⟨o2, ho2, _, ht2, hd2⟩ := D.iter j _ sta
    obtain ⟨oL, es, ep, a, b, _⟩ := Ra.fr.ns
    have a' : ha.get? L = some oL := a
    refine D.frame _ _ _ sta (fun o e => ?_) fun b' o e im => ?_
    · refine ea.keep I o e ?_ ?_
      · rw [ho2] at e; cases e
        exact Ra.hr.untracked (h := ha) ho2 ht2
      · intro z
        rw [← z, ho2] at a'; cases a'; exact hd2 _ _ b
    · refine ea.keep b' o e (Ra.hr.untracked (h := ha) e ?_) ?_
      · rintro ⟨q, _⟩
        rcases im with ⟨im, _⟩ | ⟨im, _⟩ <;> rcases q with q | q <;> rw [im] at q <;> simp at q
      · intro z
        rw [← z, e] at a'; cases a'
        rcases im with ⟨_, _, _, im⟩ | ⟨_, _, im⟩ <;> rw [b] at im <;> cases im
  by_cases hlt : k < items.length
  · have hok := jok _ _ _ t1
    obtain ⟨hm1, t1⟩ := jturn k _ _ _ (List.getElem?_eq_getElem hlt) t1
    refine D.item k items[k] { s₀ with heap := h', toks := tk' } _ _ r H' (List.getElem?_eq_getElem hlt) st1 R1.hr hok fun c h2 tk2 rc st2 hs2 => ?_
    obtain ⟨R2, keep2⟩ := R1.but (tk := tk2) hoI hi1 hi2 hi3 hbI hs2
    refine wpAny_assign_Name (snd_store hk R2 hx hm1 (keep2 rc) fun h3 mc3 _ e3 R3 keep3 => ?_)
    have e2 : ExtL L ρ s₀.heap (ρ ++ r) h2 := extL_but hI e1 hs2
    have hL := StR.notIn (s := { s₀ with heap := h2, toks := tk2 }) R2
    have e23 := e2.trans hL e3 hL
    have st3 : St (k + 1) h3 := lift h2 h3 (ρ ++ r) (ρ ++ r) (sa := { s₀ with heap := h2, toks := tk2 }) _ 0 st2 R2 e3
    refine wpAny_mono (B _ _ _ t1 _ _ _ _ R3) (fun f s4 q => ?_) fun _ _ x => x
    obtain ⟨h4, tk4, ρ4, mc4, m4, H4, fl, rfl, e4, R4, r4, q4⟩ := q
    have hL3 := StR.notIn R3
    have hL4 := StR.notIn (s := { s₀ with heap := h4, toks := tk4 }) R4
    have e234 := e23.trans hL e4 hL4
    cases fl with
    | ret v =>
      cases f with
      | ret c =>
        refine hR _ _ ?_
        exact ⟨h4, tk4, ρ4, mc4, m4, H4, .ret v, rfl, e234, R4, r4, q4⟩
      | _ => exact r4.elim
    | next =>
      cases f with
      | next =>
        obtain ⟨m5, hw, t5⟩ := q4
        have R5 := R4.weak hw
        have hlen : ρ.length ≤ n₀ := by lia
        have e5 := e234.take hlen
        obtain ⟨r5, hr5⟩ := e5.pre
        have st4 : St (k + 1) h4 := lift h3 h4 (ρ ++ r) ρ4 (sa := { s₀ with heap := h3, toks := tk2 + 1 }) _ 0 st3 R3 e4
        exact ⟨items.length - (k + 1), by lia, k + 1, r5, mc4, m5, H4.take n₀, h4, tk4, rfl, hlt, rfl, hr5 ▸ e5, hr5 ▸ R5, st4, t5⟩
      | _ => exact r4.elim
  · have hke : k = items.length := by lia
    subst hke
    have hok := jok _ _ _ t1
    have hq := jend _ _ t1
    refine D.done { s₀ with heap := h', toks := tk' } _ _ r H' st1 R1.hr hok fun h2 tk2 hs2 => ?_
    obtain ⟨R2, keep2⟩ := R1.but (tk := tk2) hoI hi1 hi2 hi3 hbI hs2
    exact wpAny_execs_nil (hR _ _ ⟨h2, tk2, ρ ++ r, mc', m', H', .next, rfl, extL_but hI e1 hs2, R2, trivial, hq⟩)
end
end Mine

/-! M5c -/
namespace Mine
open PySem PySem.W PyProof.Rows PySem.Calls

section
variable {prog : Program} {w : World} {A : Around} {E : Value → Shared → Prop} {s : Shared} {base : Heap} {ρ ρ' : List Addr} {H H' : Hp} {L : Addr} {sc : Scope} {mc : Str → Option Value} {m : Loc} {h h' : Heap} {tk : Nat}
  {K : Frag} {p : Program} {loose : List Str} {mg mb : Str → Option Value} {Γ : Gam} {d : Nat} {nm : Str} {fa : Addr} {cd : Value} {n : Nat}

theorem not_imm_of {o : Obj} {T : String} (h : o.cls = .type T) (h1 : T ≠ "tuple") (h2 : T ≠ "range") : ¬ Imm o := by
  rintro (⟨e, _⟩ | ⟨e, _⟩) <;> rw [h] at e <;> injection e with e <;> contradiction
theorem not_tracked_of {o : Obj} {T : String} (h : o.cls = .type T) (h1 : T ≠ "list") (h2 : T ≠ "set") : ¬ tracked o := by
  rintro ⟨e | e, _⟩ <;> rw [h] at e <;> injection e with e <;> contradiction

theorem Dr.list (hh : A.handled = none) {l I : Addr} (hne : l ≠ I) {i : Nat} (ha : ρ[i]? = some l) (xs : List D) :
    Dr prog w A base I ρ (fun H => lsAt H i = some xs) (xs.map .d) (fun k h => h.IsListIter I l k) where
  iter := fun k h ⟨o, ho, hc, hd⟩ => ⟨o, ho, not_imm_of hc (by decide) (by decide), not_tracked_of hc (by decide) (by decide), fun es ep e => by rw [hd] at e; cases e⟩
  frame := fun k h h' st hk _ => st.at hk
  item := fun k v s Q E r H hv st x hok hQ => by
    have ha' : (ρ ++ r)[i]? = some l := by rw [List.getElem?_append_left (List.getElem?_eq_some_iff.mp ha).1]; exact ha
    obtain ⟨vs, n, hl, hA⟩ := x.lsAt hok ha'
    rw [List.getElem?_map, Option.map_eq_some_iff] at hv
    obtain ⟨y, hy, rfl⟩ := hv
    obtain ⟨c, hc, rc⟩ := A2.getA hA hy
    exact wpAny_pyNext_list_item st hl.isList hc fun h' st' hs => hQ c h' s.toks rc st' hs.extBut
  done := fun s Q E r H st x hok hQ => by
    have ha' : (ρ ++ r)[i]? = some l := by rw [List.getElem?_append_left (List.getElem?_eq_some_iff.mp ha).1]; exact ha
    obtain ⟨vs, n, hl, hA⟩ := x.lsAt hok ha'
    refine wpAny_pyNext_list_end hh st hl.isList ?_ fun h' hs => hQ h' s.toks hs
    rw [List.length_map, ← A2.length hA]
    simp

theorem Dr.tup (hh : A.handled = none) {t I : Addr} (hne : t ≠ I) {vs : List Value} {n : Nat} {as : List At} (hA : A2 AR vs as) :
    Dr prog w A base I ρ (fun _ => True) (as.map fun y => .d (.a y)) (fun k h => h.IsTupleIter I t k ∧ IsT h t vs.toArray n) where
  iter := fun k h ⟨⟨o, ho, hc, hd⟩, _⟩ => ⟨o, ho, not_imm_of hc (by decide) (by decide), not_tracked_of hc (by decide) (by decide), fun es ep e => by rw [hd] at e; cases e⟩
  frame := fun k h h' st hk hi => ⟨let ⟨o, ho, r⟩ := st.1; ⟨o, hk o ho, r⟩, hi _ _ st.2 (.inl ⟨rfl, _, _, rfl⟩)⟩
  item := fun k v s Q E r H hv st x hok hQ => by
    rw [List.getElem?_map, Option.map_eq_some_iff] at hv
    obtain ⟨y, hy, rfl⟩ := hv
    obtain ⟨c, hc, rc⟩ := A2.getA hA hy
    exact wpAny_pyNext_tuple_item st.1 ⟨_, st.2, rfl, _, rfl⟩ hc fun h' st' hs => hQ c h' s.toks rc ⟨st', (hs.2 t hne).trans st.2⟩ hs.extBut
  done := fun s Q E r H st x hok hQ => by
    refine wpAny_pyNext_tuple_end hh st.1 ⟨_, st.2, rfl, _, rfl⟩ ?_ fun h' hs => hQ h' s.toks hs
    rw [List.length_map, ← A2.length hA]
    simp

theorem Dr.range (hh : A.handled = none) {I : Addr} {a b c : Int} (hc : c = 1 ∨ c = -1) :
    Dr prog w A base I ρ (fun _ => True) ((rangeList a b c).map .int) (fun k h => IsRangeIter h I (a + (k : Nat) * c) (((rangeList a b c).length : Int) - (k : Nat)) c) where
  iter := fun k h st => ⟨_, st, not_imm_of rfl (by decide) (by decide), not_tracked_of rfl (by decide) (by decide), fun es ep e => by simp at e⟩
  frame := fun k h h' st hk _ => hk _ st
  item := fun k v s Q E r H hv st x hok hQ => by
    rw [List.getElem?_map, Option.map_eq_some_iff] at hv
    obtain ⟨y, hy, rfl⟩ := hv
    have hlt := (List.getElem?_eq_some_iff.mp hy).1
    have hy2 : y = a + (k : Nat) * c := by
      unfold rangeList at hy
      rcases hc with rfl | rfl
      · rw [if_pos rfl, List.getElem?_map, Option.map_eq_some_iff] at hy
        obtain ⟨j, hj, rfl⟩ := hy
        have := List.getElem?_eq_some_iff.mp hj
        obtain ⟨_, e⟩ := this
        rw [List.getElem_range] at e
        subst e; simp
      · rw [if_neg (by decide), if_pos rfl, List.getElem?_map, Option.map_eq_some_iff] at hy
        obtain ⟨j, hj, rfl⟩ := hy
        obtain ⟨_, e⟩ := List.getElem?_eq_some_iff.mp hj
        rw [List.getElem_range] at e
        subst e; lia
    subst hy2
    refine wpAny_pyNext_range_item st (by lia) fun h' st' hs => ?_
    refine hQ (.int _ s.toks) h' _ ⟨s.toks, rfl⟩ ?_ hs.extBut
    have e1 : a + ((k + 1 : Nat) : Int) * c = a + (k : Int) * c + c := by push_cast; rw [Int.add_mul, Int.one_mul, Int.add_assoc]
    have e2 : ((rangeList a b c).length : Int) - ((k + 1 : Nat) : Int) = ((rangeList a b c).length : Int) - (k : Int) - 1 := by push_cast; lia
    rw [e1, e2]; exact st'
  done := fun s Q E r H st x hok hQ => by
    rw [List.length_map] at st
    exact wpAny_pyNext_range_end hh st (by lia) fun h' hs => hQ h' s.toks hs

theorem rangeList_len {a b c : Int} (hc : c = 1 ∨ c = -1) : ((rangeList a b c).length : Int) = Builtin.Range.rangeSize a b c := by
  unfold rangeList
  rcases hc with rfl | rfl
  · rw [if_pos rfl, range_size1]; simp
  · rw [if_neg (by decide), if_pos rfl, range_sizeM]; simp
end
end Mine

/-! M5d -/
namespace Mine
open PySem PySem.W PyProof.Rows PySem.Calls

section
variable {prog : Program} {w : World} {A : Around} {E : Value → Shared → Prop} {s : Shared} {base : Heap} {ρ ρ' : List Addr} {H H' : Hp} {L : Addr} {sc : Scope} {mc : Str → Option Value} {m : Loc} {h h' : Heap} {tk : Nat}
  {K : Frag} {p : Program} {loose : List Str} {mg mb : Str → Option Value} {Γ : Gam} {d : Nat} {nm : Str} {fa : Addr} {cd : Value} {n : Nat}

noncomputable def SndS (prog : Program) (w : World) (A : Around) (base : Heap) (L : Addr) (sc : Scope) (env : Env) (ok : Stmt → Bool) (ev : Stmt → Loc → Hp → (Fl → Loc → Hp → Prop) → Prop) : Prop :=
  ∀ e m H Q, ok e = true → ev e m H Q → ∀ (E : Value → Shared → Prop) (s : Shared) ρ mc, StR w base L sc mc ρ m H s → wpAny (model prog w) A (exec e env) (PostS w base L sc ρ s Q) E s

theorem PostS.next {Q : Fl → Loc → Hp → Prop} (hL : ExtL L ρ s.heap ρ' h') (R : StR w base L sc mc ρ' m H { s with heap := h', toks := tk }) (q : Q .next m H) : PostS w base L sc ρ s Q .next { s with heap := h', toks := tk } :=
  ⟨h', tk, ρ', mc, m, H, .next, rfl, hL, R, trivial, q⟩

inductive ISet (w : World) (base : Heap) (L : Addr) (sc : Scope) (s : Shared) (ρ : List Addr) (ms ns : List Int) (mu : Loc) (H : Hp) (St : Nat → Heap → Prop) (a : Addr) (c : Obj) (N : Nat) (s' : Shared) : Prop
  | mk (j : Nat) (mc' : Str → Option Value) (h' : Heap) (tk' : Nat) (e0 : N = ms.length - j) (e1 : j ≤ ms.length) (e2 : s' = { s with heap := h', toks := tk' }) (e3 : ExtL L ρ s.heap ρ h') (e4 : ∀ l ∈ ms.take j, -l ∉ ns)
    (e5 : StR w base L sc mc' ρ mu H { s with heap := h', toks := tk' }) (e6 : St j h') (e7 : h'.get? a = some c) : ISet w base L sc s ρ ms ns mu H St a c N s'
theorem snd_setLoop {x y : Str} {px py p1 p2 p3 p4 p5 p6 p7 p8 : Pos} {k : Nat} {i : Nat} {ns : List Int} {Q : Fl → Loc → Hp → Prop} (hh : A.handled = none) (hk : sc.kind = .function) (ox : okN sc x .local = true) (oy : okN sc y .local = true)
    (hxy : x ≠ y) (hm : hasL m x) (hy : lget m y = some (.ref i)) (hs : stAt H i = some ns) (hn : ns.length ≤ 1000)
    (hq : Q (if ns.any (fun l => decide (-l ∈ ns)) then .ret (.bool true) else .next) (lset m x .undef) H) (R : StR w base L sc mc ρ m H s) :
    wpAny (model prog w) A (exec (.For (.Name x px) (.Name y py) [.If (.Compare (.UnaryOp .USub (.Name x p1) p2) [.In] [.Name y p3] p4) [.Return (some (.Constant (.bool true) k p5)) p6] [] p7] [] p8) (envOf nm sc L fa cd)) (PostS w base L sc ρ s Q) E s := by
  obtain ⟨hx1, hx2⟩ := okN_iff ox
  obtain ⟨hy1, hy2⟩ := okN_iff oy
  refine wpAny_For (snd_local hk R hy (by simp) hy2 fun c0 r0 => ?_)
  obtain ⟨a, ha, rfl⟩ := r0
  obtain ⟨c, hc, hS⟩ := R.hr.stAt hs ha
  refine set_iter (w := w) hh hc hS hn fun ms I h₁ tk₁ St hp hI k₁ st₁ D => ?_
  have hbI : base.get? I = none := by
    cases q : base.get? I with
    | none => rfl
    | some o => have := R.hr.keep _ _ q; rw [hI] at this; cases this
  have R₁ : StR w base L sc mc ρ m H { s with heap := h₁, toks := tk₁ } := R.ext (Ext.grow ρ k₁) (R.hr.grow k₁)
  have forget : ∀ {mc2 : Str → Option Value} {s2 : Shared}, StR w base L sc mc2 ρ m H s2 → StR w base L sc mc2 ρ (lset m x .undef) H s2 := fun R2 =>
    ⟨R2.fr, R2.hr, fun z u e => by
      rw [lget_lset hm] at e
      by_cases hz : z = x
      · subst hz; rw [if_pos rfl] at e; cases e; exact ⟨hx1, .inl rfl⟩
      · rw [if_neg hz] at e; exact R2.loc z u e⟩
  have R₂ := forget R₁
  have hmu : hasL (lset m x .undef) x := by unfold hasL; rw [lget_lset hm, if_pos rfl]; rfl
  have hxu : lget (lset m x .undef) x = some .undef := by rw [lget_lset hm, if_pos rfl]
  have hyu : lget (lset m x .undef) y = some (.ref i) := by rw [lget_lset hm, if_neg (fun e => hxy e.symm)]; exact hy
  generalize lset m x .undef = mu at hq R₂ hmu hyu hxu
  have forget2 : ∀ {mc2 : Str → Option Value} {s2 : Shared} {v : V}, StR w base L sc mc2 ρ (lset mu x v) H s2 → StR w base L sc mc2 ρ mu H s2 := fun R2 =>
    ⟨R2.fr, R2.hr, fun z u e => by
      by_cases hz : z = x
      · subst hz; rw [hxu] at e; cases e; exact ⟨hx1, .inl rfl⟩
      · exact R2.loc z u (by rw [lget_lset hmu, if_neg hz]; exact e)⟩
  refine codeAny_forLoop (ISet w base L sc s ρ ms ns mu H St a c) ?_ ms.length
    ⟨0, mc, h₁, tk₁, rfl, Nat.zero_le _, rfl, (Ext.grow ρ k₁).toL, by simp, R₂, st₁, k₁ _ _ hc⟩
  rintro N s' ⟨j, mc', h', tk', rfl, hj, rfl, e1, hno, R1, st1, hc1⟩
  have haI : a ≠ I := by rintro rfl; rw [hc] at hI; cases hI
  obtain ⟨oI, hoI, hi1, hi2, hi3⟩ := D.iter j _ st1
  by_cases hlt : j < ms.length
  · refine D.item j ms[j] { s with heap := h', toks := tk' } _ _ (List.getElem?_eq_getElem hlt) st1 hc1 fun t h2 tk2 st2 hs2 => ?_
    obtain ⟨R2, keep2⟩ := R1.but (tk := tk2) hoI hi1 hi2 hi3 hbI hs2
    have e2 : ExtL L ρ s.heap ρ h2 := extL_but hI e1 hs2
    have hL := StR.notIn (s := { s with heap := h2, toks := tk2 }) R2
    have hc2 : h2.get? a = some c := hs2 _ _ haI hc1
    refine wpAny_assign_Name (snd_store (v := .int ms[j]) hk R2 hx1 hmu ⟨t, rfl⟩ fun h3 mc3 hs3 e3 R3 keep3 => ?_)
    have e23 := e2.trans hL e3 hL
    obtain ⟨oL, es, ep, q1, q2, _⟩ := R2.fr.ns
    have q1' : h2.get? L = some oL := q1
    have hs3' : Heap.SameBut L h2 h3 := hs3
    have hLa : a ≠ L := by rintro rfl; rw [hc2] at q1'; cases q1'; obtain ⟨_, _, _, _, rfl, _⟩ := hS; cases q2
    have hc3 : h3.get? a = some c := (hs3'.2 a hLa).trans hc2
    have st3 : St (j + 1) h3 := by
      obtain ⟨oI2, hoI2, _, _, hd2⟩ := D.iter (j + 1) _ st2
      refine D.frame _ _ _ st2 (fun o e => (hs3'.2 I ?_).trans e) fun b' o e im => (hs3'.2 b' ?_).trans e
      · intro z
        rw [← z, hoI2] at q1'; cases q1'; exact hd2 _ _ q2
      · intro z
        rw [← z, e] at q1'; cases q1'
        rcases im with ⟨_, _, _, im⟩ | ⟨_, _, im⟩ <;> rw [q2] at im <;> cases im
    refine wpAny_execs_cons (wpAny_If (wpAny_isTrue_Compare1 (wpAny_UnaryOp (snd_local hk R3 (by rw [lget_lset hmu, if_pos rfl]) (by simp) hx2 fun c1 r1 => ?_)) rfl))
    obtain ⟨t1, rfl⟩ := r1
    refine neg_int ?_
    refine snd_local hk (R3.of_heap rfl) (by rw [lget_lset hmu, if_neg (fun e => hxy e.symm)]; exact hyu) (by simp) hy2 fun c2 r2 => ?_
    obtain ⟨a', ha', rfl⟩ := r2
    rw [ha] at ha'; cases ha'
    refine set_in (w := w) hc3 hS hn ?_
    refine wpAny_truthy_bool ?_
    by_cases hin : -ms[j] ∈ ns
    · have hany : ns.any (fun l => decide (-l ∈ ns)) = true := List.any_eq_true.mpr ⟨ms[j], hp.mem_iff.mp (List.getElem_mem hlt), by simpa using hin⟩
      rw [hany] at hq
      rw [decide_eq_true hin]
      rw [if_pos rfl]
      refine wpAny_execs_cons (wpAny_Return_some (wpAny_Constant_bool ?_))
      exact ⟨h3, _, ρ, mc3, _, H, .ret (.bool true), rfl, e23, forget2 (R3.of_heap rfl), rfl, hq⟩
    · rw [decide_eq_false hin]
      rw [if_neg (by decide)]
      refine wpAny_execs_nil (wpAny_execs_nil ?_)
      refine ⟨ms.length - (j + 1), by lia, j + 1, mc3, h3, _, rfl, hlt, rfl, e23, fun l hl => ?_, forget2 (R3.of_heap rfl), st3, hc3⟩
      rw [List.take_add_one, List.getElem?_eq_getElem hlt] at hl
      rcases List.mem_append.mp hl with hl | hl
      · exact hno l hl
      · have : l = ms[j] := by simpa using hl
        rw [this]; exact hin
  · have hje : j = ms.length := by lia
    subst hje
    refine D.done { s with heap := h', toks := tk' } _ _ st1 hc1 fun h2 tk2 hs2 => ?_
    obtain ⟨R2, keep2⟩ := R1.but (tk := tk2) hoI hi1 hi2 hi3 hbI hs2
    have hany : ns.any (fun l => decide (-l ∈ ns)) = false := by
      rw [List.any_eq_false]
      intro l hl
      have := hno l (by rw [List.take_length]; exact hp.mem_iff.mpr hl)
      simp [this]
    rw [hany] at hq
    refine wpAny_execs_nil ?_
    exact ⟨h2, tk2, ρ, mc', _, H, .next, rfl, extL_but hI e1 hs2, R2, trivial, hq⟩
end
end Mine

/-! M5e -/
namespace Mine
open PySem PySem.W PyProof.Rows PySem.Calls

section
variable {prog : Program} {w : World} {A : Around} {base : Heap} {L : Addr} {sc : Scope}
  {K : Frag} {p : Program} {loose : List Str} {mg mb : Str → Option Value} {Γ : Gam} {d : Nat} {nm : Str} {fa : Addr} {cd : Value}

theorem PostS.ofE {E : Value → Shared → Prop} {s : Shared} {ρ ρ₁ : List Addr} {t : Sem Flow} {Q : Fl → Loc → Hp → Prop} {h₁ : Heap} {tk : Nat} {m : Loc} {H₁ : Hp} {mc : Str → Option Value} (e : Ext ρ s.heap ρ₁ h₁) (R : StR w base L sc mc ρ₁ m H₁ { s with heap := h₁, toks := tk })
    (h : wpAny (model prog w) A t (PostS w base L sc ρ₁ { s with heap := h₁, toks := tk } Q) E { s with heap := h₁, toks := tk }) : wpAny (model prog w) A t (PostS w base L sc ρ s Q) E { s with heap := h₁, toks := tk } :=
  wpAny_mono h (fun _ _ q => q.trans (StR.notIn R) e.toL) fun _ _ x => x

theorem assign2 {x y : Str} {px py : Pos} {env : Env} : (assignEach [.Name x px, .Name y py] env).map (·.2) = [assign (.Name x px) env, assign (.Name y py) env] := rfl

theorem evS_For0 {n : Nat} {x : Str} {it : Expr} {b : List Stmt} {p q : Pos} {m : Loc} {h : Hp} {Q : Fl → Loc → Hp → Prop} : evS Γ (n + 1) (.For (.Name x p) it b [] q) m h Q = (match negOf it b with
      | some (y, x', y') => x = x' ∧ y = y' ∧ x ≠ y ∧ hasL m x ∧ (match lget m y with
        | some (.ref i) => (match stAt h i with
          | some ns => ns.length ≤ 1000 ∧ Q (if ns.any (fun l => decide (-l ∈ ns)) then .ret (.bool true) else .next) (lset m x .undef) h
          | .none => False)
        | _ => False)
      | .none => evE Γ n it m h fun v h' => (match v with
        | .range a b' c => a.natAbs ≤ 1000 ∧ b'.natAbs ≤ 1000 ∧ (c = 1 ∨ c = -1) ∧ turns (fun v m h Q => hasL m x ∧ evB Γ n b (lset m x v) h Q) (fun _ => True) h'.length ((rangeList a b' c).map .int) m h' Q
        | .d (.t as) => turns (fun v m h Q => hasL m x ∧ evB Γ n b (lset m x v) h Q) (fun _ => True) h'.length (as.map fun y => .d (.a y)) m h' Q
        | .ref i => (match lsAt h' i with
          | some xs => xs.length ≤ 100000 ∧ turns (fun v m h Q => hasL m x ∧ evB Γ n b (lset m x v) h Q) (fun h2 => lsAt h2 i = some xs) h'.length (xs.map .d) m h' Q
          | .none => False)
        | _ => False)) := rfl

inductive IWh (w : World) (base : Heap) (L : Addr) (sc : Scope) (s : Shared) (ρ : List Addr) (I : Nat → Loc → Hp → Prop) (N : Nat) (s' : Shared) : Prop
  | mk (r : List Addr) (mc' : Str → Option Value) (m' : Loc) (H' : Hp) (h' : Heap) (tk' : Nat) (e0 : s' = { s with heap := h', toks := tk' }) (e1 : ExtL L ρ s.heap (ρ ++ r) h') (e2 : StR w base L sc mc' (ρ ++ r) m' H' { s with heap := h', toks := tk' }) (e3 : I N m' H') : IWh w base L sc s ρ I N s'
theorem sndSB (hk : sc.kind = .function) (G : Gd K p loose mg mb base) (GS : GSnd prog w K base Γ d) (hA : Amb A d) : ∀ n,
    SndS prog w A base L sc (envOf nm sc L fa cd) (okS sc n) (evS Γ n) ∧ ∀ b, okB sc n b = true → SndB prog w A base L sc (envOf nm sc L fa cd) b (evB Γ n b) := by
  intro n
  induction n with
  | zero =>
    refine ⟨fun e m H Q ok he => ?_, fun b ok m H Q he => ?_⟩
    · exact (show False from he).elim
    · exact (show False from he).elim
  | succ n ih =>
    obtain ⟨IS, IB⟩ := ih
    obtain ⟨IE, IT⟩ := sndET (prog := prog) (w := w) (A := A) (L := L) (sc := sc) (nm := nm) (fa := fa) (cd := cd) hk G GS hA n
    constructor
    · intro st m H Q ok he E s ρ mc R
      cases st with
      | Expr e pos =>
        replace ok := and_true_of ok
        rw [rvS_Expr] at he
        refine wpAny_Expr_any (Post.on R (IE e m H _ ok.2 he E s ρ mc R) fun c v ρ₁ H₁ h₁ tk₁ e₁ R₁ r₁ q₁ => ?_) (by simp [interactive, envOf, hk]) (swaps_no (notComp_call ok.1) _ _ _)
        exact PostS.next e₁.toL R₁ q₁
      | Assign ts e pos =>
       replace ok := optB_true ok
       obtain ⟨t, et, ok⟩ := ok
       obtain rfl := onlyOf_some et
       replace ok := Bool.or_eq_true_iff.mp ok
       rcases ok with ok | ok
       rotate_left 1
       · -- Assign Subscript
        replace ok := optB_true ok
        obtain ⟨z, ez, ok⟩ := ok
        obtain ⟨o, i⟩ := z
        replace ez := subOf_some ez
        obtain ⟨sp, rfl⟩ := ez
        dsimp only at ok
        replace ok := and_true_of ok
        obtain ⟨ok, oc⟩ := ok
        replace ok := and_true_of ok
        obtain ⟨ok, oe⟩ := ok
        replace ok := and_true_of ok
        obtain ⟨oo, oi⟩ := ok
        rw [rvS_AssignSub] at he
        refine wpAny_Assign_Subscript (Post.on R (IE e m H _ oe he E s ρ mc R) fun c v ρ₁ H₁ h₁ tk₁ e₁ R₁ r₁ q₁ => ?_) (swaps_no oc _ _ _)
        refine Post.on R₁ (IE o m H₁ _ oo q₁ E _ ρ₁ mc R₁) fun c2 v2 ρ₂ H₂ h₂ tk₂ e₂ R₂ r₂ q₂ => ?_
        refine Post.on R₂ (IE i m H₂ _ oi q₂ E _ ρ₂ mc R₂) fun c3 v3 ρ₃ H₃ h₃ tk₃ e₃ R₃ r₃ q₃ => ?_
        refine wpAny_mono (snd_setIt q₃ R₃.hr (r₂.ext R₂.hr e₃) r₃ ((r₁.ext R₁.hr e₂).ext R₂.hr e₃)) (fun _ s4 q => ?_) fun _ _ x => x
        obtain ⟨h4, H4, rfl, e4, x4, q4⟩ := q
        exact PostS.next (tk := tk₃) ((e₁.trans (e₂.trans e₃)).trans e4).toL (R₃.ext e4 x4) q4
       replace ok := Bool.or_eq_true_iff.mp ok
       rcases ok with ok | ok
       · -- Assign Name
        replace ok := optB_true ok
        obtain ⟨x, ex, ok⟩ := ok
        replace ex := nameOf_some ex
        obtain ⟨px, rfl⟩ := ex
        replace ok := and_true_of ok
        obtain ⟨ok, oc⟩ := ok
        replace ok := And.intro (and_true_of ok) oc
        obtain ⟨hx1, hx2⟩ := okN_iff ok.1.1
        rw [rvS_Assign] at he
        refine wpAny_Assign_Name (Post.on R (IE e m H _ ok.1.2 he E s ρ mc R) fun c v ρ₁ H₁ h₁ tk₁ e₁ R₁ r₁ q₁ => ?_) (swaps_no ok.2 _ _ _)
        refine snd_store hk R₁ hx1 q₁.1 r₁ fun h2 mc2 _ e2 R2 _ => ?_
        exact PostS.next (e₁.toL.trans (StR.notIn R₁) e2 (StR.notIn R2)) R2 q₁.2
       · -- Assign Tuple
        replace ok := optB_true ok
        obtain ⟨es, et, ok⟩ := ok
        replace et := tupOf_some et
        obtain ⟨k, tp, rfl⟩ := et
        replace ok := optB_true ok
        obtain ⟨z, ez, ok⟩ := ok
        obtain ⟨ea, eb⟩ := z
        obtain rfl := headOf_some ez
        dsimp only at ok
        replace ok := optB_true ok
        obtain ⟨x, ex, ok⟩ := ok
        replace ex := nameOf_some ex
        obtain ⟨px, rfl⟩ := ex
        replace ok := optB_true ok
        obtain ⟨b0, eb0, ok⟩ := ok
        obtain rfl := onlyOf_some eb0
        replace ok := optB_true ok
        obtain ⟨y, ey, ok⟩ := ok
        replace ey := nameOf_some ey
        obtain ⟨py, rfl⟩ := ey
        replace ok := and_true_of ok
        obtain ⟨ok, oc⟩ := ok
        replace ok := and_true_of ok
        obtain ⟨ok, oe⟩ := ok
        replace ok := and_true_of ok
        obtain ⟨ox, oy⟩ := ok
        obtain ⟨hx1, hx2⟩ := okN_iff ox
        obtain ⟨hy1, hy2⟩ := okN_iff oy
        rw [rvS_Assign2] at he
        have hw : swappedStores [.Tuple [.Name x px, .Name y py] k tp] e (envOf nm sc L fa cd) = pure none := by
          cases e <;> first | rfl | exact Bool.noConfusion oc
        refine Assign_Tuple (Post.on R (IE e m H _ oe he E s ρ mc R) fun c v ρ₁ H₁ h₁ tk₁ e₁ R₁ r₁ q₁ => ?_) (by unfold swapsWithSole; exact swaps_no (notComp_call oc) _ _ _) hw
        split at q₁
        · rename_i a b
          obtain ⟨ad, vs, n2, rfl, ht, hAA⟩ := r₁
          replace hAA := hAA.uncons
          obtain ⟨c1, w1, rfl, hA1, hAA⟩ := hAA
          obtain ⟨c2, rfl, hA2⟩ := hAA.one
          refine wpAny_assign_Tuple hA.handled ⟨_, ht, rfl, _, rfl⟩ (by rfl) (by rfl) fun h2 hs2 => ?_
          have k2 : ∀ b o, h₁.get? b = some o → h2.get? b = some o := fun b o q => hs2 b o (Nat.ne_of_lt (Heap.lt_size q)) q
          have R2 : StR w base L sc mc ρ₁ m H₁ { s with heap := h2, toks := tk₁ } := (R₁.ext (tk := tk₁) (Ext.grow ρ₁ k2) (R₁.hr.grow k2))
          rw [assign2]
          refine wpAny_assignInOrder_more (wpAny_assign_Name (snd_store (v := .d (.a a)) hk R2 hx1 q₁.1 hA1 fun h3 mc3 _ e3 R3 keep3 => ?_))
          have hm3 : hasL (lset m x (.d (.a a))) y := by
            unfold hasL
            rw [lget_lset q₁.1]
            by_cases hyx : y = x
            · rw [if_pos hyx]; rfl
            · rw [if_neg hyx]; exact q₁.2.1
          refine wpAny_assignInOrder_more (wpAny_assign_Name (snd_store (v := .d (.a b)) hk R3 hy1 hm3 hA2 fun h4 mc4 _ e4 R4 keep4 => ?_))
          refine wpAny_pure ?_
          have eA := (e₁.trans (Ext.grow ρ₁ k2)).toL (L := L)
          have eB := eA.trans (StR.notIn R2) e3 (StR.notIn R3)
          exact PostS.next (eB.trans (StR.notIn R3) e4 (StR.notIn R4)) R4 q₁.2.2
        · exact q₁.elim
      | AugAssign t op e pos =>
       replace ok := Bool.or_eq_true_iff.mp ok
       rcases ok with ok | ok
       · -- AugAssign Name
        replace ok := optB_true ok
        obtain ⟨x, ex, ok⟩ := ok
        replace ex := nameOf_some ex
        obtain ⟨px, rfl⟩ := ex
        replace ok := and_true_of ok
        obtain ⟨hx1, hx2⟩ := okN_iff ok.1
        rw [rvS_Aug] at he
        split at he
        · rename_i a hl
          obtain ⟨hu, he⟩ := he
          obtain ⟨_, hloc⟩ := R.loc x a hl
          rcases hloc with hloc | ⟨c0, hc0, r0⟩
          · exact absurd hloc hu
          refine wpAny_AugAssign_Name (ldn R.fr hc0 ?_ hk hx1)
          refine Post.on R (IE e m H _ ok.2 he E s ρ mc R) fun c v ρ₁ H₁ h₁ tk₁ e₁ R₁ r₁ q₁ => ?_
          refine Post.on R₁ (snd_inop q₁ R₁.hr (r0.ext R.hr e₁) r₁) fun c2 v2 ρ₂ H₂ h₂ tk₂ e₂ R₂ r₂ q₂ => ?_
          refine snd_store hk R₂ hx1 (by unfold hasL; rw [hl]; rfl) r₂ fun h3 mc3 _ e3 R3 _ => ?_
          exact PostS.next ((e₁.trans e₂).toL.trans (StR.notIn R₂) e3 (StR.notIn R3)) R3 q₂
        · exact he.elim
       · -- AugAssign Subscript
        replace ok := optB_true ok
        obtain ⟨z, ez, ok⟩ := ok
        obtain ⟨o, i0⟩ := z
        replace ez := subOf_some ez
        obtain ⟨sp, rfl⟩ := ez
        replace ok := optB_true ok
        obtain ⟨c, ec, ok⟩ := ok
        replace ec := constOf_some ec
        obtain ⟨k, p1, ec⟩ := ec
        dsimp only at ec ok
        subst ec
        replace ok := optB_true ok
        obtain ⟨i, ei, ok⟩ := ok
        obtain rfl := intOf_some ei
        replace ok := and_true_of ok
        rw [rvS_AugSub] at he
        refine wpAny_AugAssign_SubscriptAny (Post.on R (IE o m H _ ok.1 he E s ρ mc R) fun c v ρ₁ H₁ h₁ tk₁ e₁ R₁ r₁ q₁ => ?_)
        have okc : okE sc n (.Constant (.int i) k p1) = true := by
          cases n with
          | zero => exact (show False from q₁).elim
          | succ n => rfl
        refine Post.on R₁ (IE _ m H₁ _ okc q₁ E _ ρ₁ mc R₁) fun c2 v2 ρ₂ H₂ h₂ tk₂ e₂ R₂ r₂ q₂ => ?_
        refine wpAny_mono (snd_getIt q₂ R₂.hr (r₁.ext R₁.hr e₂) r₂) (fun old s3 q => ?_) fun _ _ x => x
        obtain ⟨rfl, vo, ro, q3⟩ := q
        refine Post.on R₂ (IE e m H₂ _ ok.2 q3 E _ ρ₂ mc R₂) fun c3 v3 ρ₃ H₃ h₃ tk₃ e₃ R₃ r₃ q₄ => ?_
        refine Post.on R₃ (snd_inop q₄ R₃.hr (ro.ext R₂.hr e₃) r₃) fun c4 v4 ρ₄ H₄ h₄ tk₄ e₄ R₄ r₄ q₅ => ?_
        refine wpAny_mono (snd_setIt q₅ R₄.hr (((r₁.ext R₁.hr e₂).ext R₂.hr e₃).ext R₃.hr e₄) ((r₂.ext R₂.hr e₃).ext R₃.hr e₄) r₄) (fun _ s4 q => ?_) fun _ _ x => x
        obtain ⟨h5, H5, rfl, e5, x5, q5⟩ := q
        exact PostS.next (tk := tk₄) ((e₁.trans (e₂.trans (e₃.trans e₄))).trans e5).toL (R₄.ext e5 x5) q5
      | If t b o pos =>
        replace ok := and_true_of ok
        replace ok := And.intro (and_true_of ok.1) ok.2
        rw [rvS_If] at he
        refine wpAny_If (PostB.on R (IT t m H _ ok.1.1 he E s ρ mc R) fun c ρ₁ H₁ h₁ tk₁ e₁ R₁ q₁ => ?_)
        cases c with
        | true => exact PostS.ofE e₁ R₁ (IB b ok.1.2 m H₁ Q (by simpa using q₁) E _ ρ₁ mc R₁)
        | false => exact PostS.ofE e₁ R₁ (IB o ok.2 m H₁ Q (by simpa using q₁) E _ ρ₁ mc R₁)
      | While t b o pos =>
        replace ok := optB_true ok
        obtain ⟨_, eo, ok⟩ := ok
        obtain rfl := nilOf_some eo
        replace ok := and_true_of ok
        rw [rvS_While] at he
        obtain ⟨I, k, hI, turn⟩ := he
        refine wpAny_While ?_
        refine codeAny_whileLoop (IWh w base L sc s ρ I) ?_ k
          ⟨[], mc, m, H, s.heap, s.toks, rfl, by rw [List.append_nil]; exact ExtL.refl .., by rw [List.append_nil]; exact R, hI⟩
        rintro N s' ⟨r, mc', m', H', h', tk', rfl, e1, R1, hI1⟩
        obtain ⟨hlen, he⟩ := turn N m' H' hI1
        refine PostB.on R1 (IT t m' H' _ ok.1 he _ _ _ _ R1) fun c ρ₁ H₁ h₁ tk₁ e₁ R₁ q₁ => ?_
        have e01 := e1.trans (StR.notIn R1) (e₁.toL (L := L)) (StR.notIn R₁)
        cases c with
        | false => 
          rw [if_neg (by decide)] at q₁ ⊢
          exact wpAny_execs_nil ⟨h₁, tk₁, ρ₁, mc', m', H₁, .next, rfl, e01, R₁, trivial, q₁⟩
        | true =>
          rw [if_pos rfl] at q₁ ⊢
          refine wpAny_mono (IB b ok.2 m' H₁ _ q₁ _ _ _ _ R₁) (fun f s4 q => ?_) fun _ _ x => x
          obtain ⟨h4, tk4, ρ4, mc4, m4, H4, fl, rfl, e4, R4, r4, q4⟩ := q
          have e014 := e01.trans (StR.notIn R₁) e4 (StR.notIn R4)
          cases fl with
          | ret v =>
            cases f with
            | ret c => exact ⟨h4, tk4, ρ4, mc4, m4, H4, .ret v, rfl, e014, R4, r4, q4⟩
            | _ => exact r4.elim
          | next =>
            cases f with
            | next =>
              obtain ⟨k', m3, hk', hw, hI3⟩ := q4
              have hρH : ρ.length = H.length := R.hr.len
              have e5 := e014.take (n := H.length) (by lia)
              obtain ⟨r5, hr5⟩ := e5.pre
              exact ⟨k', hk', r5, mc4, m3, H4.take H.length, h4, tk4, rfl, hr5 ▸ e5, hr5 ▸ (R4.weak hw), hI3⟩
            | _ => exact r4.elim
      | For t it b o pos =>
       replace ok := optB_true ok
       obtain ⟨_, eo, ok⟩ := ok
       obtain rfl := nilOf_some eo
       replace ok := optB_true ok
       obtain ⟨x, ex, ok⟩ := ok
       replace ex := nameOf_some ex
       obtain ⟨px, rfl⟩ := ex
       replace ok := Bool.or_eq_true_iff.mp ok
       rcases ok with ok | ok
       · -- set loop
        replace ok := optB_true ok
        obtain ⟨z, hq, ok⟩ := ok
        obtain ⟨y, x', y'⟩ := z
        replace hq := negOf_some hq
        obtain ⟨py, p1, p2, p3, p4, k, p5, p6, p7, rfl, rfl⟩ := hq
        replace ok := and_true_of ok
        rw [rvS_ForNeg] at he
        obtain ⟨rfl, rfl, hxy, hm, he⟩ := he
        split at he
        · rename_i i hl
          split at he
          · rename_i ns hs
            exact snd_setLoop hA.handled hk ok.1 ok.2 hxy hm hl hs he.1 he.2 R
          · exact he.elim
        · exact he.elim
       · -- For
        replace ok := and_true_of ok
        obtain ⟨hq, ok⟩ := ok
        replace hq := Option.isNone_iff_eq_none.mp hq
        replace ok := and_true_of ok
        obtain ⟨ok, on⟩ := ok
        replace ok := and_true_of ok
        obtain ⟨ok, ob⟩ := ok
        replace ok := and_true_of ok
        obtain ⟨ox, oi⟩ := ok
        obtain ⟨hx1, hx2⟩ := okN_iff ox
        have he2 := he
        rw [evS_For0, hq] at he2
        dsimp only at he2
        refine wpAny_For (Post.on R (IE it m H _ oi he2 E s ρ mc R) fun c v ρ₁ H₁ h₁ tk₁ e₁ R₁ r₁ q₁ => ?_) (fun z => by cases it <;> first | rfl | exact Bool.noConfusion on)
        have hlen : H₁.length = ρ₁.length := R₁.hr.len.symm
        have base0 : base.get? h₁.objs.size = none := by
          cases q : base.get? h₁.objs.size with
          | none => rfl
          | some o => have := R₁.hr.keep _ _ q; have g := get_size h₁; rw [show ({ s with heap := h₁, toks := tk₁ } : Shared).heap = h₁ from rfl] at this; rw [g] at this; cases this
        have fin : ∀ (o : Obj) (f : Flow) (s' : Shared), PostS w base L sc ρ₁ { s with heap := h₁, toks := tk₁ } Q f s' → PostS w base L sc ρ s Q f s' := fun o f s' q => q.trans (StR.notIn R₁) e₁.toL
        split at q₁
        · rename_i a b' c
          obtain ⟨ha, hb, hc, q₁⟩ := q₁
          obtain ⟨rr, t, u, z, rfl, hr⟩ := r₁
          refine wpAny_pyIter_range hr (range_small ha hb hc) ?_
          refine snd_for (tk₀ := tk₁) (s₀ := { s with heap := h₁, toks := tk₁ }) hk hx1 (IB b ob) (Dr.range (I := h₁.objs.size) (ρ := ρ₁) (a := a) (b := b') hA.handled hc) hlen q₁ (R₁.ext (Ext.push ..) (R₁.hr.push _)) (get_size h₁) (Ext.push ..).toL ?_ base0 (fun f s' q => fin default f s' q)
          rw [rangeList_len hc]
          have e0 : a + ((0 : Nat) : Int) * c = a := by simp
          rw [e0]
          have e1 : Builtin.Range.rangeSize a b' c - ((0 : Nat) : Int) = Builtin.Range.rangeSize a b' c := by simp
          rw [e1]
          exact Heap.get?_push_size _ rfl
        · rename_i as
          obtain ⟨t, vs, n2, rfl, ht, hAA⟩ := r₁
          have hne : t ≠ h₁.objs.size := Nat.ne_of_lt (Heap.lt_size ht)
          refine wpAny_pyIter_tuple ⟨_, ht, rfl, _, rfl⟩ ?_
          exact snd_for (tk₀ := tk₁) (s₀ := { s with heap := h₁, toks := tk₁ }) hk hx1 (IB b ob) (Dr.tup (I := h₁.objs.size) (ρ := ρ₁) (t := t) (n := n2) hA.handled hne hAA) hlen q₁ (R₁.ext (Ext.push ..) (R₁.hr.push _)) (get_size h₁) (Ext.push ..).toL
            ⟨⟨_, Heap.get?_push_size _ rfl, rfl, rfl⟩, Heap.get?_push_of_some _ ht⟩ base0 (fun f s' q => fin default f s' q)
        · rename_i i
          obtain ⟨l, hl, rfl⟩ := r₁
          split at q₁
          · rename_i xs e0
            obtain ⟨us, n2, hls, hAA⟩ := R₁.hr.lsAt e0 hl
            have hne : l ≠ h₁.objs.size := Nat.ne_of_lt (Heap.lt_size hls)
            refine wpAny_pyIter_list hls.isList ?_
            exact snd_for (tk₀ := tk₁) (s₀ := { s with heap := h₁, toks := tk₁ }) hk hx1 (IB b ob) (Dr.list (I := h₁.objs.size) (ρ := ρ₁) hA.handled hne hl xs) hlen q₁.2 (R₁.ext (Ext.push ..) (R₁.hr.push _)) (get_size h₁) (Ext.push ..).toL
              ⟨_, Heap.get?_push_size _ rfl, rfl, rfl⟩ base0 (fun f s' q => fin default f s' q)
          · exact q₁.elim
        · exact q₁.elim
      | Return v pos =>
        replace ok := optB_true ok
        obtain ⟨e, ev, ok⟩ := ok
        subst ev
        rw [rvS_Return] at he
        refine wpAny_Return_some (Post.on R (IE e m H _ ok he E s ρ mc R) fun c v ρ₁ H₁ h₁ tk₁ e₁ R₁ r₁ q₁ => ?_)
        exact ⟨h₁, tk₁, ρ₁, mc, m, H₁, .ret v, rfl, e₁.toL, R₁, r₁, q₁⟩
      | _ => exact Bool.noConfusion ok
    · intro b ok m H Q he E s ρ mc R
      cases b with
      | nil => exact wpAny_execs_nil ⟨s.heap, s.toks, ρ, mc, m, H, .next, rfl, ExtL.refl .., R, trivial, he⟩
      | cons st rest =>
        replace ok : (okS sc n st && okB sc n rest) = true := ok
        rw [Bool.and_eq_true] at ok
        rw [rvB_cons] at he
        refine wpAny_execs_cons (wpAny_mono (IS st m H _ ok.1 he E s ρ mc R) (fun f s1 q => ?_) fun _ _ x => x)
        obtain ⟨h1, tk1, ρ1, mc1, m1, H1, fl, rfl, e1, R1, r1, q1⟩ := q
        cases fl with
        | ret v =>
          cases f with
          | ret c => exact ⟨h1, tk1, ρ1, mc1, m1, H1, .ret v, rfl, e1, R1, r1, q1⟩
          | _ => exact r1.elim
        | next =>
          cases f with
          | next => exact wpAny_mono (IB rest ok.2 m1 H1 Q q1 E _ ρ1 mc1 R1) (fun _ _ q => q.trans (StR.notIn R1) e1) fun _ _ x => x
          | _ => exact r1.elim
end
end Mine

/-! M6 -/
namespace Mine
open PySem PySem.W PyProof.Rows PySem.Calls

/-- a def stands in the text's heap as it is written -/
structure FnAt (K : Frag) (i : Nat) (fa : Addr) (fd : FuncData) (cd : Value) : Prop where
  glob : nsIn K mainGlobals (nameAt i) = some (some (.ref fa))
  obj : ∃ oc od osl, K.lookup fa = some ⟨oc, od, .func fd, osl⟩
  code : codeIn K fd.code fd.qualname = true
  body : fd.body = .stmts (bodyAt i)
  scope : fd.scope = scopeAt i
  env : ∀ L, callEnv fd L fa = envOf (nameAt i) (scopeAt i) L fa cd
  bind : ∀ cs : List Value, cs.length = (paramsAt i).length → bindArgs fd ⟨cs, []⟩ = pure ((paramsAt i).zip cs)

/-- what is asked of a def's spelling -/
noncomputable def defOk (i : Nat) : Bool :=
  okB (scopeAt i) 60 (bodyAt i) && decide ((scopeAt i).kind = .function) && !(scopeAt i).isCoroutine && !(scopeAt i).isGenerator &&
  (scopeAt i).names.all (fun x => decide (x.2 ≠ .cell)) && (paramsAt i).all (fun x => decide ((scopeAt i).names.lookup x = some .local)) &&
  (localsAt i).all (fun x => decide ((scopeAt i).names.lookup x = some .local)) && decide (paramsAt i).Nodup

section
variable {prog : Program} {w : World} {A : Around} {E : Value → Shared → Prop} {s : Shared} {base : Heap} {ρ ρ' : List Addr} {H H' : Hp} {L : Addr} {sc : Scope} {mc : Str → Option Value} {m : Loc} {h h' : Heap} {tk : Nat}
  {K : Frag} {p : Program} {loose : List Str} {mg mb : Str → Option Value} {Γ : Gam} {d : Nat} {nm : Str} {fa : Addr} {cd : Value} {n : Nat}

theorem lget_init {x : Str} {v : V} : ∀ {ls : List Str} {ps : List Str} {vs : List V}, lget (initLoc ls ps vs) x = some v → x ∈ ls ∧ v = ((ps.zip vs).lookup x).getD .undef
  | [], ps, vs, h => by simp [initLoc, lget] at h
  | l :: ls, ps, vs, h => by
    unfold initLoc at h
    rw [List.map_cons] at h
    unfold lget at h
    by_cases hx : x = l
    · subst hx
      rw [if_pos rfl] at h
      cases h
      exact ⟨.head _, rfl⟩
    · rw [if_neg hx] at h
      obtain ⟨a, b⟩ := lget_init (ls := ls) (ps := ps) (vs := vs) h
      exact ⟨.tail _ a, b⟩

theorem zip_lookup {h : Heap} {ρ : List Addr} {x : Str} {v : V} : ∀ {ps : List Str} {vs : List V} {cs : List Value}, A2 (VR h ρ) cs vs → (ps.zip vs).lookup x = some v → ∃ c, (ps.zip cs).lookup x = some c ∧ VR h ρ c v
  | [], _, _, _, e => by simp at e
  | p :: ps, [], _, _, e => by simp at e
  | p :: ps, v' :: vs, [], hA, _ => hA.elim
  | p :: ps, v' :: vs, c :: cs, hA, e => by
    rw [List.zip_cons_cons, List.lookup_cons] at e ⊢
    by_cases hp : (x == p) = true
    · rw [hp] at e ⊢
      cases e
      exact ⟨c, rfl, hA.1⟩
    · have : (x == p) = false := by simpa using hp
      rw [this] at e ⊢
      exact zip_lookup hA.2 e

theorem zip_fst_mem {α β : Type} {x : α × β} : ∀ {ps : List α} {cs : List β}, x ∈ ps.zip cs → x.1 ∈ ps
  | p :: ps, c :: cs, h => by
    rw [List.zip_cons_cons] at h
    rcases List.mem_cons.mp h with rfl | h
    · exact .head _
    · exact .tail _ (zip_fst_mem h)

theorem lookup_reverse {β : Type} {x : Str} : ∀ {l : List (Str × β)}, (l.map (·.1)).Nodup → l.reverse.lookup x = l.lookup x
  | [], _ => rfl
  | (y, b) :: l, h => by
    rw [List.map_cons, List.nodup_cons] at h
    rw [List.reverse_cons, List.lookup_append, lookup_reverse h.2, List.lookup_cons]
    by_cases hx : (x == y) = true
    · have hxy : x = y := by simpa using hx
      subst hxy
      have : l.lookup x = none := by
        rw [List.lookup_eq_none_iff]
        intro p hp
        rw [bne_iff_ne]
        intro e
        exact h.1 (List.mem_map.mpr ⟨p, hp, e.symm⟩)
      rw [this, hx]
      simp
    · have : (x == y) = false := by simpa using hx
      rw [List.lookup_cons, this]
      cases l.lookup x <;> simp [List.lookup_cons, this]

theorem fn_sound {i : Nat} {fd : FuncData} {spec : List V → Hp → V → Hp → Prop} (G : Gd K p loose mg mb base) (GS : GSnd prog w K base Γ d) (Fa : FnAt K i fa fd cd) (hok : defOk i = true) (F : FnOk Γ i spec)
    {vs : List V} {r : V} {Q : Value → Shared → Prop} {cs : List Value} (hs : spec vs H r H') (hA : Amb A (d + 1)) (hr : HR w base ρ H s.heap) (hcs : A2 (VR s.heap ρ) cs vs)
    (k : ∀ h2 tk ρ' c, Ext ρ s.heap ρ' h2 → HR w base ρ' H' h2 → VR h2 ρ' c r → Q c { s with heap := h2, toks := tk }) :
    wpAny (model prog w) A (call (.ref fa) cs) Q E s := by
  simp only [defOk, Bool.and_eq_true, decide_eq_true_eq, Bool.not_eq_true', List.all_eq_true] at hok
  obtain ⟨⟨⟨⟨⟨⟨⟨o1, o2⟩, o3⟩, o4⟩, o5⟩, o6⟩, o7⟩, o8⟩ := hok
  obtain ⟨hl, hu, hev⟩ := F vs H r H' hs
  obtain ⟨oc, od, osl, ho⟩ := Fa.obj
  have hcl : cs.length = (paramsAt i).length := (A2.length hcs).trans hl
  have Xs := G.X.keeps hr.keep
  refine wpAny_call (codeAny_call_def (fd := fd) (body := bodyAt i) (binds := (paramsAt i).zip cs) (by have := hA.depth; have e : recursionLimit = 1000 := rfl; lia) (Xs _ _ ho) rfl (G.T.nolimit.keeps hr.keep) (codeRec_of Xs Fa.code) Fa.body
    (BindsTo.of_eq (Fa.bind cs hcl)) (by rw [Fa.scope]; exact o5) (by rw [Fa.scope]; exact fun x hx => o6 _ (zip_fst_mem hx)) ?_ (by rw [Fa.scope]; exact o3) (by rw [Fa.scope]; exact o4) (by rw [Fa.scope]; exact o2))
  intro h₀ hns hk
  rw [Fa.env]
  have hr0 : HR w base ρ H h₀ := hr.grow hk
  have R : StR w base s.heap.objs.size (scopeAt i) (fun x => ((paramsAt i).zip cs).reverse.lookup x) ρ (initLoc (localsAt i) (paramsAt i) vs) H { s with heap := h₀, toks := s.toks + ((paramsAt i).zip cs).length } := by
    refine ⟨⟨hns, hr0.keep, ?_⟩, hr0, fun x v e => ?_⟩
    · exact G.last _ hr.keep
    · obtain ⟨hx, rfl⟩ := lget_init e
      refine ⟨o7 x hx, ?_⟩
      cases q : ((paramsAt i).zip vs).lookup x with
      | none => exact .inl rfl
      | some v =>
        refine .inr ?_
        obtain ⟨c, hc, rc⟩ := zip_lookup hcs q
        refine ⟨c, ?_, (rc.ext hr (Ext.grow ρ hk))⟩
        show ((paramsAt i).zip cs).reverse.lookup x = some c
        rw [lookup_reverse, hc]
        rw [List.map_fst_zip (by lia)]
        exact o8
  have hA' : Amb (A.deeper (envOf (nameAt i) (scopeAt i) s.heap.objs.size fa cd)) d := ⟨hA.handled, by show A.depth + 1 + d ≤ 900; have := hA.depth; lia, by show A.units + 3 + 3 * d ≤ 9000; have := hA.units; lia⟩
  refine wpAny_mono ((sndSB (nm := nameAt i) (fa := fa) (cd := cd) o2 G GS hA' 60).2 (bodyAt i) o1 _ _ _ hev _ _ _ _ R) (fun f s' q => ?_) fun _ _ x => x
  obtain ⟨h', tk', ρ', mc', m', H2, fl, rfl, e, R', rf, rfl, hb, hle, hH⟩ := q
  cases f with
  | ret c =>
    show Q c _
    have hρ : ρ.length = H.length := hr.len
    obtain ⟨⟨rr, hrr⟩, hnew, hkeep⟩ := e
    have e' : Ext ρ s.heap ρ' h' := by
      refine ⟨⟨rr, hrr⟩, fun a ha => (hnew a ha).imp id fun q => ?_, fun b o q n => hkeep b o (hk _ _ q) n fun z => ?_⟩
      · cases q2 : s.heap.get? a with
        | none => rfl
        | some o =>
          have q3 : h₀.get? a = none := q
          have := hk _ _ q2
          rw [q3] at this; cases this
      · rw [z, get_size] at q; cases q
    refine k h' tk' (ρ'.take H'.length) c (e'.take (by lia)) ?_ (VR.take rf hb)
    rw [hH]
    have hlen : H'.length = (H2.take H'.length).length := by rw [← hH]
    have := R'.hr.take H'.length
    rw [← hlen]
    exact this
  | _ => exact rf.elim
end
end Mine

/-! M7 -/
namespace Mine
open PySem PySem.W PyProof.Rows PySem.Calls

section
variable {prog : Program} {w : World} {A : Around} {E : Value → Shared → Prop} {s : Shared} {base : Heap} {ρ ρ' : List Addr} {H H' : Hp} {L : Addr} {sc : Scope} {mc : Str → Option Value} {m : Loc} {h h' : Heap} {tk : Nat}
  {K : Frag} {p : Program} {loose : List Str} {mg mb : Str → Option Value} {Γ : Gam} {d : Nat} {nm : Str} {fa : Addr} {cd : Value} {n : Nat}

theorem HR.empty (h : Heap) : HR w h [] [] h := ⟨rfl, .nil, fun i o e => by simp at e, fun a ha => by simp at ha, fun _ _ e => e⟩

/-- an int by a call of our own rules, the heap but grown -/
theorem int_of_post {t : Sem Value} {i : Int} {P : Value → Shared → Prop} (h : wpAny (model prog w) A t (Post w s.heap [] s fun v _ => v = .int i) E s)
    (k : ∀ u h' tk, (∀ b o, s.heap.get? b = some o → h'.get? b = some o) → P (.int i u) { s with heap := h', toks := tk }) : wpAny (model prog w) A t P E s :=
  wpAny_mono h (fun c s' q => by
    obtain ⟨h₁, tk₁, ρ₁, v, H₁, rfl, e, x, r, rfl⟩ := q
    obtain ⟨u, rfl⟩ := r
    exact k u h₁ tk₁ fun b o q => e.keep b o q (by simp)) fun _ _ x => x

theorem elt_first {cs : Scope} {C : Addr} {env : Env} {m₃ : Str → Option Value} {i : Int} {t : Tok} {p1 p2 p3 p4 p5 p6 p7 : Pos} {k1 k2 : Nat} (hh : A.handled = none) (G : Gd K p loose mg mb base) (keep : ∀ b o, base.get? b = some o → s.heap.get? b = some o)
    (hkind : cs.kind = .function) (hint : cs.names.lookup (Str.ofString "int") = some .globalImplicit) (hcell : cs.names.lookup (Str.ofString "cell") = some .local) (hg : env.globals = mainGlobals) (hb : env.builtins = builtinsNs)
    (hn : s.heap.Ns C m₃) (hm : m₃ (Str.ofString "cell") = some (.int i t)) :
    wpAny (model prog w) A (eval (.BinOp (.Call (.Name (Str.ofString "int") p1) [.Name (Str.ofString "cell") p2] [] p3) .Mod (.BinOp (.Constant (.int 10) k1 p4) .Pow (.Constant (.int 60) k2 p5) p6) p7) (compEnv cs C env))
      (fun y s₄ => (∃ u, y = .int (i.fmod (10 ^ 60)) u) ∧ Keeps s s₄) E s := by
  refine wpAny_BinOp (wpAny_Call_ofName ?_)
  have T := G.T.keeps keep
  refine Name_function_global (by simp [compEnv, hkind]) (by simpa [Env.kindOf, compEnv] using hint) (loadGlobal_builtin (mg := mg) (mb := mb) (by simp only [compEnv, hg]; exact T.g) (mg_none_of G.X G.T.g (G.nb _ (by simp [builtins]))) (by simp only [compEnv, hb]; exact T.b)
    ((T.builtins _ (by decide)).trans bb_int) ?_)
  refine callWith_top (.inr ⟨_, rfl⟩) (f := fun _ => true) rfl ?_
  show wpAny _ _ (spliced [(false, eval (.Name (Str.ofString "cell") p2) (compEnv cs C env))]) _ _ _
  refine spliced_cons (wpAny_Name (wpAny_loadName_local (by simp [compEnv, hkind]) (by simpa [Env.kindOf, compEnv] using hcell) hn hm (spliced_nil ?_)))
  refine int_of_post (i := i) (snd_callB (f := Str.ofString "int") (vs := [.int i]) bb_int (by unfold callB; rw [if_neg (by decide), if_neg (by decide), if_pos rfl]; exact (rfl : V.int i = V.int i)) (HR.empty _) ⟨⟨t, rfl⟩, trivial⟩ hh) fun u h1 tk1 k1' => ?_
  refine wpAny_BinOp (wpAny_Constant_int (wpAny_Constant_int ?_))
  refine int_of_post (i := 10 ^ 60) (snd_binop (a := .int 10) (b := .int 60) (H := []) (by show 0 ≤ (60 : Int) ∧ _; exact ⟨by decide, by decide, by decide, rfl⟩) (HR.empty _) ⟨_, rfl⟩ ⟨_, rfl⟩) fun u2 h2 tk2 k2' => ?_
  refine int_of_post (i := i.fmod (10 ^ 60)) (snd_binop (a := .int i) (b := .int (10 ^ 60)) (H := []) (by show (10 ^ 60 : Int) ≠ 0 ∧ _; exact ⟨by decide, rfl⟩) (HR.empty _) ⟨_, rfl⟩ ⟨_, rfl⟩) fun u3 h3 tk3 k3' => ?_
  exact ⟨⟨u3, rfl⟩, h3, tk3, rfl, fun b o e => k3' b o (k2' b o (k1' b o e))⟩

noncomputable def law0 : Stmt := ((bodyAt 13)[0]?).getD (.Pass ⟨0, 0, 0, 0⟩)
theorem int_A2 {us : List Value} : ∀ {ns : List Int} {ys : List Value}, Paired (fun v y => ∀ i t, v = Value.int i t → ∃ u, y = Value.int (i.fmod (10 ^ 60)) u) us ys → A2 (fun v i => ∃ t, v = Value.int i t) us ns →
    A2 (DR h) ys ((ns.map fun i => i.fmod (10 ^ 60)).map fun k => D.a (.int k)) := by
  induction us with
  | nil =>
    intro ns ys hF hA
    cases hF
    cases ns with
    | nil => trivial
    | cons _ _ => exact hA.elim
  | cons v us ih =>
    intro ns ys hF hA
    cases hF with
    | cons h1 h2 =>
      cases ns with
      | nil => exact hA.elim
      | cons k ns =>
        obtain ⟨t, e⟩ := hA.1
        exact ⟨h1 _ _ e, ih h2 hA.2⟩

theorem snd_first {l : Addr} {vs : List Value} {ns : List Int} (hA : Amb A d) (G : Gd K p loose mg mb base) (R : StR w base L (scopeAt 13) mc [] m [] s) (hx : mc (Str.ofString "script") = some (.ref l)) (hl : s.heap.IsList l vs.toArray)
    (hI : A2 (fun v i => ∃ t, v = Value.int i t) vs ns) (hlen : ns.length ≤ 63) (hcl : hasL m (Str.ofString "cells")) :
    wpAny (model prog w) A (exec law0 (envOf nm (scopeAt 13) L fa cd)) (PostS w base L (scopeAt 13) [] s (fun fl m' H' => fl = .next ∧ m' = lset m (Str.ofString "cells") (.ref 0) ∧ H' = [.list (((ns.take 40).map fun i => i.fmod (10 ^ 60)).map fun k => .a (.int k))])) E s := by
  conv in law0 => whnf
  have hvl : vs.length ≤ 63 := by rw [A2.length hI]; exact hlen
  refine wpAny_Assign_ListComp_walk (fun _ => true) (fun v y => ∀ i t, v = Value.int i t → ∃ u, y = Value.int (i.fmod (10 ^ 60)) u) (by with_unfolding_all rfl) (by decide) (by decide) rfl (by decide) (by decide) (by with_unfolding_all rfl) (by with_unfolding_all rfl) ?_
  refine Subscript_ (wpAny_Call_ofName (name_B R.fr G.X G.T (G.nb _ (by simp [builtins])) bb_list (by decide) ?_))
  refine callWith_top (.inr ⟨_, rfl⟩) (f := fun _ => true) rfl ?_
  show wpAny _ _ (spliced [(false, eval (.Name (Str.ofString "script") _) (envOf nm (scopeAt 13) L fa cd))]) _ _ _
  refine spliced_cons (ld R.fr hx (spliced_nil ?_))
  obtain ⟨o, ho, hoc, k0, hod⟩ := id hl
  refine call_list_seq l (.inl rfl) ho hoc hod (fun h1 c1 k1 hc1 => ?_) (by rw [List.size_toArray, sizeLine_eq]; lia)
  have hL1 : IsL h1 s.heap.objs.size vs.toArray c1 := hc1
  refine wpAny_Slice ?_
  rw [evalPart_none]
  refine wpAny_pure (wpAny_evalPart_some (wpAny_Constant_int (wpAny_pure ?_)))
  refine tail_any ((hL1.isList.push _).typeIs) slot_list_getitem.lookup ?_ (by rfl)
  refine wpAny_getItem_list_slice (hL1.isList.push _) (Heap.IsSliceOf.new ..) .none (.int 40 _) .none (by simp) ?_ (by rw [List.size_toArray, sizeLine_eq]; lia)
  have e40 : slicePick vs.toArray none (some 40) none = (vs.take 40).toArray := slicePick_upto' vs.toArray 40
  rw [e40]
  have hI2 : A2 (fun v i => ∃ t, v = Value.int i t) (vs.take 40) (ns.take 40) := A2.take hI 40
  have hL2 : IsL ((h1.push { cls := .type "slice", data := .fields #[.none, .int 40 s.toks, .none] }).push { cls := .type "list", data := .seq (vs.take 40).toArray }) (h1.push { cls := .type "slice", data := .fields #[.none, .int 40 s.toks, .none] }).objs.size (vs.take 40).toArray 0 := IsL.new ..
  generalize hax : (h1.push { cls := .type "slice", data := .fields #[.none, .int 40 s.toks, .none] }).objs.size = ax at hL2 ⊢
  have k2 : ∀ b o, s.heap.get? b = some o → ((h1.push { cls := .type "slice", data := .fields #[.none, .int 40 s.toks, .none] }).push { cls := .type "list", data := .seq (vs.take 40).toArray }).get? b = some o := fun b o e =>
    Heap.get?_push_of_some _ (Heap.get?_push_of_some _ (k1 b o e))
  generalize hh2 : ((h1.push { cls := .type "slice", data := .fields #[.none, .int 40 s.toks, .none] }).push { cls := .type "list", data := .seq (vs.take 40).toArray }) = h2 at hL2 k2 ⊢
  refine wpAny_pyIter_list hL2.isList ?_
  have hne : ax ≠ h2.objs.size := Nat.ne_of_lt (Heap.lt_size hL2)
  have hnsL := R.fr.ns
  have kL : ∀ b o, s.heap.get? b = some o → (h2.push { cls := .type "list_iterator", data := .fields #[.ref ax, .int 0 0] }).get? b = some o := fun b o e => Heap.get?_push_of_some _ (k2 b o e)
  have hLI : L ≠ h2.objs.size := by
    rintro rfl
    obtain ⟨oL, _, _, hL, _⟩ := hnsL
    have := k2 _ _ hL
    rw [get_size] at this; cases this
  refine ⟨h2.objs.size, _, _, _, _, _, mc, rfl, Walks.list hA.handled h2.objs.size ax hne (vs.take 40).toArray, ?_, ⟨⟨_, Heap.get?_push_size _ rfl, rfl, rfl⟩, hL2.isList.push _⟩, ?_, ?_, hnsL.keeps kL, ⟨?_, ?_⟩, ?_⟩
  · rw [List.size_toArray, List.length_take, sizeLine_eq]; lia
  · intro b hb
    have : b = h2.objs.size ∨ b = ax := by simpa using hb
    rw [Heap.size_push]
    rcases this with rfl | rfl
    · exact Nat.lt_succ_self _
    · exact Nat.lt_succ_of_lt (Heap.lt_size hL2)
  · show L ∉ [h2.objs.size]
    simpa using hLI
  · intro C i v s₃ m₃ E' hv hn hm hk htk
    exact wpAny_pure ⟨rfl, s₃.heap, s₃.toks, rfl, fun _ _ e => e⟩
  · intro C i v s₃ m₃ E' hv _ hn hm hk htk
    have hi : i < (ns.take 40).length := by
      have := (Array.getElem?_eq_some_iff.mp hv).1
      rw [A2.length_toArray hI2] at this; exact this
    obtain ⟨v', hv', t, e⟩ := A2.getA hI2 (List.getElem?_eq_getElem hi)
    rw [hv] at hv'
    cases hv'
    subst e
    refine wpAny_mono (elt_first hA.handled G (fun b o e => ?_) rfl (by decide) (by decide) rfl rfl hn hm) (fun y s4 q => ⟨fun i' t' e => ?_, q.2⟩) fun _ _ x => x
    · refine hk b o (fun hb => ?_) (kL b o (R.fr.keep b o e))
      have : b = h2.objs.size := by simpa using hb
      subst this
      have := k2 _ _ (R.fr.keep _ o e)
      rw [get_size] at this; cases this
    · cases e
      exact q.1
  · intro D h' tk ys us hD hlD hpl hlen2 hP hF hns hk
    obtain ⟨kk, hDD⟩ := hpl
    have kk2 : ∀ b o, s.heap.get? b = some o → b ≠ L → h'.get? b = some o := fun b o e hbL => hk b o hbL (fun hb => by
      have : b = h2.objs.size := by simpa using hb
      subst this
      have := k2 _ _ e
      rw [get_size] at this; cases this) (kL b o e)
    have hD0 : s.heap.get? D = none := by
      cases q : s.heap.get? D with
      | none => rfl
      | some o => have := kL _ _ q; rw [show (h2.push { cls := .type "list_iterator", data := .fields #[.ref ax, .int 0 0] }).get? D = none from hD] at this; cases this
    have hb : ∀ b o, base.get? b = some o → b ≠ L := fun b o e z => by
      subst z
      rw [base_none R.fr] at e; cases e
    have husA : us = vs.take 40 := by
      apply List.ext_getElem?
      intro j
      cases e : us[j]? with
      | some v =>
        have := hP j v e
        rw [List.getElem?_toArray] at this
        exact this.symm
      | none =>
        have h1 := List.getElem?_eq_none_iff.mp e
        rw [hlen2, List.size_toArray] at h1
        exact (List.getElem?_eq_none_iff.mpr h1).symm
    rw [List.filter_eq_self.mpr (fun _ _ => rfl), husA] at hF
    have hys := int_A2 (h := h') hF hI2
    have kimm : ∀ b o, s.heap.get? b = some o → b ∉ ([] : List Addr) → Imm o → h'.get? b = some o := fun b o e _ im => kk2 b o e fun z => by
      subst z
      obtain ⟨oL, es, ep, hL, hd, _⟩ := hnsL
      rw [hL] at e; cases e
      rcases im with ⟨_, _, _, im⟩ | ⟨_, _, im⟩ <;> rw [hd] at im <;> cases im
    refine ⟨h', tk, [D], _, lset m (Str.ofString "cells") (.ref 0), _, .next, rfl, ⟨⟨[D], rfl⟩, fun a ha => .inr (by rw [List.mem_singleton.mp ha]; exact hD0), fun b o e _ n => kk2 b o e n⟩, ⟨⟨hns, fun b o e => kk2 b o (R.fr.keep b o e) (hb b o e), R.fr.above⟩, ⟨rfl, by simp, fun i o e => ?_, fun a ha => ?_, fun b o e => kk2 b o (R.fr.keep b o e) (hb b o e)⟩, fun x v e => ?_⟩, trivial, rfl, rfl, rfl⟩
    · cases i with
      | zero =>
        simp only [List.getElem?_cons_zero, Option.some.injEq] at e
        subst e
        exact ⟨D, _, rfl, hDD, ys.toList, kk, by simp [W.listOf], hys⟩
      | succ i => simp at e
    · rw [List.mem_singleton.mp ha]
      cases q : base.get? D with
      | none => rfl
      | some o => have := R.fr.keep _ _ q; rw [hD0] at this; cases this
    · rw [lget_lset hcl] at e
      by_cases hxc : x = Str.ofString "cells"
      · subst hxc
        rw [if_pos rfl] at e
        cases e
        exact ⟨by decide, .inr ⟨.ref D, by simp, D, rfl, rfl⟩⟩
      · rw [if_neg hxc] at e
        obtain ⟨a, b⟩ := R.loc x v e
        exact ⟨a, b.imp id fun ⟨c, hc, r⟩ => ⟨c, by rw [if_neg hxc]; exact hc, r.keep R.hr ⟨[D], rfl⟩ kimm⟩⟩
end
end Mine

/-! M8 -/
namespace Mine
open PySem PySem.W PyProof.Rows PySem.Calls

section
variable {prog : Program} {w : World} {A : Around} {E : Value → Shared → Prop} {s : Shared} {base : Heap} {L : Addr} {mc : Str → Option Value}
  {K : Frag} {p : Program} {loose : List Str} {mg mb : Str → Option Value} {Γ Γ' : Gam} {d : Nat} {nm : Str} {fa : Addr} {cd : Value}

noncomputable def gEmpty : Gam := fun _ _ _ _ _ => False
noncomputable def gAdd (Γ : Gam) (f : Str) (sp : List V → Hp → V → Hp → Prop) : Gam := fun g vs h r h' => Γ g vs h r h' ∨ (g = f ∧ sp vs h r h')
theorem GSnd.empty : GSnd prog w K base gEmpty d := fun _ _ _ _ _ _ h => h.elim
theorem Amb.pred {n : Nat} (h : Amb A (n + 1)) : Amb A n := ⟨h.handled, by have := h.depth; lia, by have := h.units; lia⟩
theorem GSnd.succ (GS : GSnd prog w K base Γ d) : GSnd prog w K base Γ (d + 1) := fun f vs h r h' fb hg hf A E Q s ρ cs hA x rcs k => GS f vs h r h' fb hg hf A E Q s ρ cs hA.pred x rcs k
theorem GSnd.add {i : Nat} {f : Str} {fd : FuncData} {sp : List V → Hp → V → Hp → Prop} (GS : GSnd prog w K base Γ (d + 1)) (GS' : GSnd prog w K base Γ' d) (G : Gd K p loose mg mb base) (Fa : FnAt K i fa fd cd) (hn : nameAt i = f) (hok : defOk i = true) (F : FnOk Γ' i sp) :
    GSnd prog w K base (gAdd Γ f sp) (d + 1) := by
  intro g vs h r h' fb hg hf A E Q s ρ cs hA x rcs k
  rcases hg with hg | ⟨rfl, hs⟩
  · exact GS g vs h r h' fb hg hf A E Q s ρ cs hA x rcs k
  · have := Fa.glob
    rw [hn] at this
    rw [this] at hf
    cases hf
    exact fn_sound G GS' Fa hok F hs hA x rcs k

noncomputable def g1 : Gam := gAdd (gAdd (gAdd (gAdd (gAdd (gAdd (gAdd gEmpty (Str.ofString "clause_state") SpCS) (Str.ofString "put_true") SpPT) (Str.ofString "is_clause") SpIC) (Str.ofString "_law_pick") SpLP) (Str.ofString "_law_column") SpLC) (Str.ofString "_law_cases") SpLK) (Str.ofString "_law_fails") SpLF
noncomputable def g2 : Gam := gAdd (gAdd g1 (Str.ofString "propagation_fails") SpPF) (Str.ofString "_law_impossible") SpLI
noncomputable def g3 : Gam := gAdd g2 (Str.ofString "check_refutation") SpCR
noncomputable def g4 : Gam := gAdd g3 (Str.ofString "_law_taken") SpLT

/-- where the defs stand -/
structure Fns (K : Frag) : Prop where
  f1 : ∃ fa fd cd, FnAt K 1 fa fd cd
  f2 : ∃ fa fd cd, FnAt K 2 fa fd cd
  f3 : ∃ fa fd cd, FnAt K 3 fa fd cd
  f4 : ∃ fa fd cd, FnAt K 4 fa fd cd
  f5 : ∃ fa fd cd, FnAt K 5 fa fd cd
  f7 : ∃ fa fd cd, FnAt K 7 fa fd cd
  f8 : ∃ fa fd cd, FnAt K 8 fa fd cd
  f9 : ∃ fa fd cd, FnAt K 9 fa fd cd
  f10 : ∃ fa fd cd, FnAt K 10 fa fd cd
  f11 : ∃ fa fd cd, FnAt K 11 fa fd cd
  f12 : ∃ fa fd cd, FnAt K 12 fa fd cd

theorem g1_snd (G : Gd K p loose mg mb base) (N : Fns K) : GSnd prog w K base g1 1 := by
  obtain ⟨_, _, _, f1⟩ := N.f1
  obtain ⟨_, _, _, f2⟩ := N.f2
  obtain ⟨_, _, _, f4⟩ := N.f4
  obtain ⟨_, _, _, f7⟩ := N.f7
  obtain ⟨_, _, _, f8⟩ := N.f8
  obtain ⟨_, _, _, f10⟩ := N.f10
  obtain ⟨_, _, _, f11⟩ := N.f11
  unfold g1
  have e0 : GSnd prog w K base gEmpty 0 := GSnd.empty
  exact (((((((GSnd.empty.add e0 G f1 rfl (by decide +kernel) (fn_cs _)).add e0 G f2 rfl (by decide +kernel) (fn_pt _)).add e0 G f4 rfl (by decide +kernel) (fn_ic _)).add e0 G f7 rfl (by decide +kernel) (fn_lp _)).add e0 G f8 rfl (by decide +kernel) (fn_lc _)).add e0 G f10 rfl (by decide +kernel) (fn_lk _)).add e0 G f11 rfl (by decide +kernel) (fn_lf _))
theorem g2_snd (G : Gd K p loose mg mb base) (N : Fns K) : GSnd prog w K base g2 2 := by
  obtain ⟨_, _, _, f3⟩ := N.f3
  obtain ⟨_, _, _, f9⟩ := N.f9
  have e1 : GSnd prog w K base g1 1 := g1_snd G N
  unfold g2
  refine (e1.succ.add e1 G f3 rfl (by decide +kernel) (fn_pf _ (fun vs h r h' q => ?_) fun vs h r h' q => ?_)).add e1 G f9 rfl (by decide +kernel) (fn_li _ fun vs h r h' q => ?_)
  · exact .inl (.inl (.inl (.inl (.inl (.inl (.inr ⟨rfl, q⟩))))))
  · exact .inl (.inl (.inl (.inl (.inl (.inr ⟨rfl, q⟩)))))
  · exact .inl (.inl (.inr ⟨rfl, q⟩))
theorem g1_2 {f : Str} {vs : List V} {h h' : Hp} {r : V} (q : g1 f vs h r h') : g2 f vs h r h' := .inl (.inl q)
theorem g3_snd (G : Gd K p loose mg mb base) (N : Fns K) : GSnd prog w K base g3 3 := by
  obtain ⟨_, _, _, f5⟩ := N.f5
  have e2 : GSnd prog w K base g2 2 := g2_snd G N
  unfold g3
  refine e2.succ.add e2 G f5 rfl (by decide +kernel) (fn_cr _ (fun vs h r h' q => g1_2 ?_) fun vs h r h' q => ?_)
  · exact .inl (.inl (.inl (.inl (.inr ⟨rfl, q⟩))))
  · exact .inl (.inr ⟨rfl, q⟩)
theorem g4_snd (G : Gd K p loose mg mb base) (N : Fns K) : GSnd prog w K base g4 4 := by
  obtain ⟨_, _, _, f12⟩ := N.f12
  have e3 : GSnd prog w K base g3 3 := g3_snd G N
  unfold g4
  exact e3.succ.add e3 G f12 rfl (by decide +kernel) (fn_lt _ fun vs h r h' q => .inr ⟨rfl, q⟩)
theorem g4_law : GLaw g4 where
  pick := fun vs h r h' q => .inl (.inl (g1_2 (.inl (.inl (.inl (.inr ⟨rfl, q⟩))))))
  cases := fun vs h r h' q => .inl (.inl (g1_2 (.inl (.inr ⟨rfl, q⟩))))
  imp := fun vs h r h' q => .inl (.inl (.inr ⟨rfl, q⟩))
  fails := fun vs h r h' q => .inl (.inl (g1_2 (.inr ⟨rfl, q⟩)))
  taken := fun vs h r h' q => .inr ⟨rfl, q⟩
  pf := fun vs h r h' q => .inl (.inl (.inl (.inr ⟨rfl, q⟩)))

theorem law_wp {l : Addr} {vs : List Value} {ns : List Int} {Q : Flow → Shared → Prop} (G : Gd K p loose mg mb base) (N : Fns K) (hA : Amb A 4) (F : Fr base L s.heap mc) (hx : mc (Str.ofString "script") = some (.ref l)) (hl : s.heap.IsList l vs.toArray)
    (hI : A2 (fun v i => ∃ t, v = Value.int i t) vs ns) (hlen : ns.length ≤ 63) (hQ : ∀ s' mc', Fr base L s'.heap mc' → s'.gens = s.gens → s'.os = s.os → Q (.ret (.bool true)) s') :
    wpAny (model prog w) A (execs (bodyAt 13) (envOf nm (scopeAt 13) L fa cd)) Q E s := by
  have e0 : bodyAt 13 = law0 :: (bodyAt 13).drop 1 := rfl
  rw [e0]
  have hloc : (localsAt 13).all (fun x => decide ((scopeAt 13).names.lookup x = some .local)) = true := by decide +kernel
  rw [List.all_eq_true] at hloc
  have R0 : StR w base L (scopeAt 13) mc [] (initLoc (localsAt 13) [] []) [] s := ⟨F, ⟨rfl, .nil, fun i o e => by simp at e, fun a ha => by simp at ha, F.keep⟩, fun x v e => by
    obtain ⟨h1, h2⟩ := lget_init e
    exact ⟨of_decide_eq_true (hloc x h1), .inl h2⟩⟩
  refine wpAny_execs_cons (wpAny_mono (snd_first hA G R0 hx hl hI hlen (by unfold hasL; decide +kernel)) (fun f s1 q => ?_) fun _ _ x => x)
  obtain ⟨h1, tk1, ρ1, mc1, m1, H1, fl, rfl, e1, R1, r1, rfl, rfl, rfl⟩ := q
  cases f with
  | next =>
    have em : lset (initLoc (localsAt 13) [] []) (Str.ofString "cells") (.ref 0) = (ELaw (.undef) (.ref 0) (.undef) (.undef) (.undef) (.undef) (.undef) (.undef) (.undef) (.undef) (.undef) (.undef) (.undef) (.undef) (.undef) (.undef) (.undef) (.undef) (.undef) (.undef) (.undef) (.undef) (.undef) (.undef) (.undef) (.undef)) := by rfl
    rw [em] at R1
    have hl1 := law1 (vscript := .undef) (vpot := .undef) (vsquare := .undef) (vcount := .undef) (vclauses := .undef) (vsizes := .undef) (vstep := .undef) (vsize := .undef) (vclause := .undef) (vj := .undef) (vliteral := .undef) (vm := .undef) (vspared := .undef) (vnames := .undef) (vorder := .undef) (vimpossible := .undef) (vrows := .undef) (vliterals := .undef) (vbegun := .undef) (vfails := .undef) (vat := .undef) (vkind := .undef) (vbad := .undef) (vtaken := .undef) (vdue := .undef)
      (cells := (ns.take 40).map fun i => i.fmod (10 ^ 60)) g4_law (by rw [List.length_map, List.length_take]; lia)
    refine wpAny_mono ((sndSB (nm := nm) (fa := fa) (cd := cd) rfl G (g4_snd G N) hA 60).2 ((bodyAt 13).drop 1) (by decide +kernel) _ _ _ hl1 _ _ _ _ R1) (fun f s' q => ?_) fun _ _ x => x
    obtain ⟨h', tk', ρ', mc', m', H2, fl, rfl, e, R', rf, hfl⟩ := q
    unfold LQ at hfl
    subst hfl
    cases f with
    | ret c =>
      have hc : c = .bool true := rf
      subst hc
      exact hQ _ mc' R'.fr rfl rfl
    | _ => exact rf.elim
  | _ => exact r1.elim

theorem pop_get {α : Type} {xs : Array α} {n z : Nat} (e : xs.size = n + 1) (hz : z ≠ n) : xs.pop[z]? = xs[z]? := by
  by_cases hlt : z < n
  · rw [Array.getElem?_pop, if_pos (by lia)]
  · rw [Array.getElem?_eq_none (by rw [Array.size_pop]; lia), Array.getElem?_eq_none (by lia)]
theorem trim : ∀ (n : Nat) (h : Heap), h.objs.size = n → ∃ h0 : Heap, (∀ b, h0.get? b = h.get? b) ∧ h0.objs.size ≤ h.objs.size ∧ (h0.objs.size = 0 ∨ ∃ o, h0.get? (h0.objs.size - 1) = some o)
  | 0, h, e => ⟨h, fun _ => rfl, Nat.le_refl _, .inl e⟩
  | n + 1, h, e => by
    cases q : h.get? n with
    | some o => exact ⟨h, fun _ => rfl, Nat.le_refl _, .inr ⟨o, by rw [e]; exact q⟩⟩
    | none =>
      obtain ⟨h0, a, b, c⟩ := trim n ⟨h.objs.pop, h.life⟩ (by simp [e])
      refine ⟨h0, fun z => (a z).trans ?_, Nat.le_trans b (by simp), c⟩
      by_cases hz : z = n
      · subst hz
        rw [q]
        unfold Heap.get?
        have : (h.objs.pop)[z]? = none := by simp [e]
        rw [this]
      · unfold Heap.get?
        have this : (h.objs.pop)[z]? = h.objs[z]? := pop_get e hz
        rw [this]
theorem gd_of (X : K.In base) (T : TopRead p loose mg mb base) (nb : ∀ x ∈ ("bool" : Str) :: builtins, nsIn K mainGlobals x = some none) (us : ∀ f ∈ users, ∃ fa, nsIn K mainGlobals f = some (some (.ref fa)) ∧ keepIn K (.ref fa) = true) :
    ∃ base0 : Heap, (∀ b, base0.get? b = base.get? b) ∧ base0.objs.size ≤ base.objs.size ∧ Gd K p loose mg mb base0 := by
  obtain ⟨h0, a, b, c⟩ := trim _ base rfl
  refine ⟨h0, a, b, fun z o e => (a z).trans (X z o e), T.keeps fun z o e => (a z).trans e, nb, fun h k => ?_, us⟩
  rcases c with c | ⟨o, c⟩
  · lia
  · have : (h0.objs.size - 1 : Nat) < h.objs.size := Heap.lt_size (k _ _ c)
    lia
end
end Mine

/-! T0 -/
namespace Mine
open PySem PySem.W PyProof.Rows
set_option maxHeartbeats 8000000
noncomputable def argsAt (i : Nat) : Arguments := match defAt i with | some (_, a, _, _) => a | .none => default
/-- the objects that the law reaches, as the run of the top leaves them: the bodies are the text's own -/
noncomputable def kEn (P : Params) (x : String) (k : Nat) (v : Value) : DictEntry := ⟨PyData.keyHash P (Str.ofString x), .str (Str.ofString x) k, v⟩
noncomputable def kCode (i k : Nat) (line argc : Int) (z : Nat) (a b c : Value) (m : Int) : Obj :=
  ⟨.type "code", none, .fields #[.str (nameAt i) k, .str (nameAt i) (k + 1), .str (Str.ofString "/claim/cut.py") (k + 2), .int line 0, .int argc 0, .int 0 0, .int 0 0, .int 3 0,
    .ref z, .bool true, .int 181 0, .ref (z + 1), .none, a, b, c, .int m 0, .int line 0, .str (Str.ofString "/claim/cut.py") (m.toNat + 1)], #[]⟩
noncomputable def kFun (i : Nat) (mo : String) (k c : Nat) : Obj :=
  ⟨.type "function", none, .func (FuncData.mk (nameAt i) (nameAt i) (argsAt i) (.stmts (bodyAt i)) (scopeAt i) 3 [] .none .none .none (.str (Str.ofString mo) k) none (.ref c) .none 0), #[]⟩
noncomputable def K0 (P : Params) : Frag := [
  (3, ⟨.type "dict", none, .dict #[
    kEn P "__name__" 165 (.str (Str.ofString "law_sj0026_01") 239),
    kEn P "__doc__" 166 (.none),
    kEn P "__package__" 167 (.none),
    kEn P "__loader__" 168 (.builtin "__main__.__loader__#opaque"),
    kEn P "__spec__" 169 (.none),
    kEn P "__annotations__" 170 (.ref 6),
    kEn P "__builtins__" 171 (.ref 4),
    kEn P "__file__" 173 (.str (Str.ofString "/claim/cut.py") 172),
    kEn P "__cached__" 174 (.none),
    kEn P "clause_state" 200 (.ref 21),
    kEn P "put_true" 209 (.ref 28),
    kEn P "propagation_fails" 223 (.ref 35),
    kEn P "is_clause" 232 (.ref 42),
    kEn P "check_refutation" 238 (.ref 47),
    kEn P "_law_pick" 251 (.ref 54),
    kEn P "_law_column" 261 (.ref 61),
    kEn P "_law_impossible" 274 (.ref 68),
    kEn P "_law_cases" 288 (.ref 75),
    kEn P "_law_fails" 302 (.ref 82),
    kEn P "_law_taken" 314 (.ref 89),
    kEn P "law" 320 (.ref 94)] 21, #[]⟩),
  (20, kCode 1 189 2 2 15 (.ref 17) (.ref 18) (.ref 19) 198),
  (21, kFun 1 "gateloom.drup" 187 20),
  (27, kCode 2 201 18 2 22 (.ref 24) (.ref 25) (.ref 26) 207),
  (28, kFun 2 "gateloom.drup" 187 27),
  (34, kCode 3 210 24 3 29 (.ref 31) (.ref 32) (.ref 33) 221),
  (35, kFun 3 "gateloom.drup" 187 34),
  (41, kCode 4 224 40 2 36 (.ref 38) (.ref 39) (.ref 40) 230),
  (42, kFun 4 "gateloom.drup" 187 41),
  (46, kCode 5 233 45 3 43 (.none) (.none) (.ref 45) 236),
  (47, kFun 5 "gateloom.drup" 187 46),
  (53, kCode 7 241 58 3 48 (.ref 50) (.ref 51) (.ref 52) 249),
  (54, kFun 7 "law_sj0026_01" 239 53),
  (60, kCode 8 252 73 2 55 (.ref 57) (.ref 58) (.ref 59) 259),
  (61, kFun 8 "law_sj0026_01" 239 60),
  (67, kCode 9 262 78 2 62 (.ref 64) (.ref 65) (.ref 66) 272),
  (68, kFun 9 "law_sj0026_01" 239 67),
  (74, kCode 10 275 87 2 69 (.ref 71) (.ref 72) (.ref 73) 286),
  (75, kFun 10 "law_sj0026_01" 239 74),
  (81, kCode 11 289 97 2 76 (.ref 78) (.ref 79) (.ref 80) 300),
  (82, kFun 11 "law_sj0026_01" 239 81),
  (88, kCode 12 303 119 3 83 (.ref 85) (.ref 86) (.ref 87) 312),
  (89, kFun 12 "law_sj0026_01" 239 88)]
local macro_rules | `(tactic| k_head) => `(tactic| o_head (kHook Mine.K0 [3, 20, 21, 27, 28, 34, 35, 41, 42, 46, 47, 53, 54, 60, 61, 67, 68, 74, 75, 81, 82, 88, 89] (fun _ => by kernel_rfl)))
open_top hd for PySem.Challenge.rw_sj0026_01
end Mine

/-! T6 -/
namespace Mine
open PySem PySem.W PyProof.Rows
set_option maxHeartbeats 8000000
theorem ln1 {α : Type} {n : Nat} {l : List α} (h : l.length = n + 1) : ∃ a t, l = a :: t ∧ t.length = n := by
  cases l with
  | nil => cases h
  | cons a t => exact ⟨a, t, rfl, Nat.succ.inj h⟩
theorem ln2 {α : Type} {l : List α} (h : l.length = 2) : ∃ a b, l = [a, b] := by
  obtain ⟨a, t, e, h1⟩ := ln1 h
  obtain ⟨b, u, e1, h2⟩ := ln1 h1
  rw [List.eq_nil_of_length_eq_zero h2] at e1
  exact ⟨a, b, by rw [e, e1]⟩
theorem ln3 {α : Type} {l : List α} (h : l.length = 3) : ∃ a b c, l = [a, b, c] := by
  obtain ⟨a, t, e, h1⟩ := ln1 h
  obtain ⟨b, c, e1⟩ := ln2 h1
  exact ⟨a, b, c, by rw [e, e1]⟩
noncomputable def fdOf (K : Frag) (fa : Addr) : FuncData := match K.lookup fa with
  | some ⟨_, _, .func fd, _⟩ => fd
  | _ => default
noncomputable def cdOf (K : Frag) (fa : Addr) : Value := (fdOf K fa).code
theorem at1 (P : Params) : FnAt (K0 P) 1 21 (fdOf (K0 P) 21) (cdOf (K0 P) 21) where
  glob := by kernel_rfl
  obj := ⟨.type "function", none, #[], by kernel_rfl⟩
  code := by kernel_rfl
  body := by kernel_rfl
  scope := by kernel_rfl
  env := fun L => by kernel_rfl
  bind := fun cs h => by
    have h' : cs.length = 2 := h
    obtain ⟨a, b, rfl⟩ := ln2 h'
    kernel_rfl
theorem at2 (P : Params) : FnAt (K0 P) 2 28 (fdOf (K0 P) 28) (cdOf (K0 P) 28) where
  glob := by kernel_rfl
  obj := ⟨.type "function", none, #[], by kernel_rfl⟩
  code := by kernel_rfl
  body := by kernel_rfl
  scope := by kernel_rfl
  env := fun L => by kernel_rfl
  bind := fun cs h => by
    have h' : cs.length = 2 := h
    obtain ⟨a, b, rfl⟩ := ln2 h'
    kernel_rfl
theorem at3 (P : Params) : FnAt (K0 P) 3 35 (fdOf (K0 P) 35) (cdOf (K0 P) 35) where
  glob := by kernel_rfl
  obj := ⟨.type "function", none, #[], by kernel_rfl⟩
  code := by kernel_rfl
  body := by kernel_rfl
  scope := by kernel_rfl
  env := fun L => by kernel_rfl
  bind := fun cs h => by
    have h' : cs.length = 3 := h
    obtain ⟨a, b, c, rfl⟩ := ln3 h'
    kernel_rfl
theorem at4 (P : Params) : FnAt (K0 P) 4 42 (fdOf (K0 P) 42) (cdOf (K0 P) 42) where
  glob := by kernel_rfl
  obj := ⟨.type "function", none, #[], by kernel_rfl⟩
  code := by kernel_rfl
  body := by kernel_rfl
  scope := by kernel_rfl
  env := fun L => by kernel_rfl
  bind := fun cs h => by
    have h' : cs.length = 2 := h
    obtain ⟨a, b, rfl⟩ := ln2 h'
    kernel_rfl
theorem at5 (P : Params) : FnAt (K0 P) 5 47 (fdOf (K0 P) 47) (cdOf (K0 P) 47) where
  glob := by kernel_rfl
  obj := ⟨.type "function", none, #[], by kernel_rfl⟩
  code := by kernel_rfl
  body := by kernel_rfl
  scope := by kernel_rfl
  env := fun L => by kernel_rfl
  bind := fun cs h => by
    have h' : cs.length = 3 := h
    obtain ⟨a, b, c, rfl⟩ := ln3 h'
    kernel_rfl
theorem at7 (P : Params) : FnAt (K0 P) 7 54 (fdOf (K0 P) 54) (cdOf (K0 P) 54) where
  glob := by kernel_rfl
  obj := ⟨.type "function", none, #[], by kernel_rfl⟩
  code := by kernel_rfl
  body := by kernel_rfl
  scope := by kernel_rfl
  env := fun L => by kernel_rfl
  bind := fun cs h => by
    have h' : cs.length = 3 := h
    obtain ⟨a, b, c, rfl⟩ := ln3 h'
    kernel_rfl
theorem at8 (P : Params) : FnAt (K0 P) 8 61 (fdOf (K0 P) 61) (cdOf (K0 P) 61) where
  glob := by kernel_rfl
  obj := ⟨.type "function", none, #[], by kernel_rfl⟩
  code := by kernel_rfl
  body := by kernel_rfl
  scope := by kernel_rfl
  env := fun L => by kernel_rfl
  bind := fun cs h => by
    have h' : cs.length = 2 := h
    obtain ⟨a, b, rfl⟩ := ln2 h'
    kernel_rfl
theorem at9 (P : Params) : FnAt (K0 P) 9 68 (fdOf (K0 P) 68) (cdOf (K0 P) 68) where
  glob := by kernel_rfl
  obj := ⟨.type "function", none, #[], by kernel_rfl⟩
  code := by kernel_rfl
  body := by kernel_rfl
  scope := by kernel_rfl
  env := fun L => by kernel_rfl
  bind := fun cs h => by
    have h' : cs.length = 2 := h
    obtain ⟨a, b, rfl⟩ := ln2 h'
    kernel_rfl
theorem at10 (P : Params) : FnAt (K0 P) 10 75 (fdOf (K0 P) 75) (cdOf (K0 P) 75) where
  glob := by kernel_rfl
  obj := ⟨.type "function", none, #[], by kernel_rfl⟩
  code := by kernel_rfl
  body := by kernel_rfl
  scope := by kernel_rfl
  env := fun L => by kernel_rfl
  bind := fun cs h => by
    have h' : cs.length = 2 := h
    obtain ⟨a, b, rfl⟩ := ln2 h'
    kernel_rfl
theorem at11 (P : Params) : FnAt (K0 P) 11 82 (fdOf (K0 P) 82) (cdOf (K0 P) 82) where
  glob := by kernel_rfl
  obj := ⟨.type "function", none, #[], by kernel_rfl⟩
  code := by kernel_rfl
  body := by kernel_rfl
  scope := by kernel_rfl
  env := fun L => by kernel_rfl
  bind := fun cs h => by
    have h' : cs.length = 2 := h
    obtain ⟨a, b, rfl⟩ := ln2 h'
    kernel_rfl
theorem at12 (P : Params) : FnAt (K0 P) 12 89 (fdOf (K0 P) 89) (cdOf (K0 P) 89) where
  glob := by kernel_rfl
  obj := ⟨.type "function", none, #[], by kernel_rfl⟩
  code := by kernel_rfl
  body := by kernel_rfl
  scope := by kernel_rfl
  env := fun L => by kernel_rfl
  bind := fun cs h => by
    have h' : cs.length = 3 := h
    obtain ⟨a, b, c, rfl⟩ := ln3 h'
    kernel_rfl
theorem fns (P : Params) : Fns (K0 P) := ⟨⟨_, _, _, at1 P⟩, ⟨_, _, _, at2 P⟩, ⟨_, _, _, at3 P⟩, ⟨_, _, _, at4 P⟩, ⟨_, _, _, at5 P⟩, ⟨_, _, _, at7 P⟩, ⟨_, _, _, at8 P⟩, ⟨_, _, _, at9 P⟩, ⟨_, _, _, at10 P⟩, ⟨_, _, _, at11 P⟩, ⟨_, _, _, at12 P⟩⟩
theorem nbs (P : Params) : ∀ x ∈ ("bool" : Str) :: builtins, nsIn (K0 P) mainGlobals x = some none := by
  have e : ∀ x : Str, x ∈ ("bool" : Str) :: builtins → (x = "bool" ∨ x = "abs" ∨ x = "len" ∨ x = "int" ∨ x = "isinstance" ∨ x = "range" ∨ x = "list" ∨ x = "tuple" ∨ x = "set") := by
    intro x hx
    simpa [builtins] using hx
  intro x hx
  rcases e x hx with rfl | rfl | rfl | rfl | rfl | rfl | rfl | rfl | rfl <;> kernel_rfl
theorem uss (P : Params) : ∀ f ∈ users, ∃ fa, nsIn (K0 P) mainGlobals f = some (some (.ref fa)) ∧ keepIn (K0 P) (.ref fa) = true := by
  intro f hf
  simp only [users, List.mem_cons, List.not_mem_nil, or_false] at hf
  rcases hf with rfl | rfl | rfl | rfl | rfl | rfl | rfl | rfl | rfl | rfl | rfl
  · exact ⟨21, by kernel_rfl, by kernel_rfl⟩
  · exact ⟨28, by kernel_rfl, by kernel_rfl⟩
  · exact ⟨35, by kernel_rfl, by kernel_rfl⟩
  · exact ⟨42, by kernel_rfl, by kernel_rfl⟩
  · exact ⟨47, by kernel_rfl, by kernel_rfl⟩
  · exact ⟨54, by kernel_rfl, by kernel_rfl⟩
  · exact ⟨61, by kernel_rfl, by kernel_rfl⟩
  · exact ⟨68, by kernel_rfl, by kernel_rfl⟩
  · exact ⟨75, by kernel_rfl, by kernel_rfl⟩
  · exact ⟨82, by kernel_rfl, by kernel_rfl⟩
  · exact ⟨89, by kernel_rfl, by kernel_rfl⟩

theorem ints_A2 {vs : List Value} {ns : List Int} (h : IntsAre vs ns) : A2 (fun v i => ∃ t, v = Value.int i t) vs ns := by
  induction h with
  | nil => trivial
  | cons n t h ih => exact ⟨⟨t, rfl⟩, ih⟩
theorem fin_law {prog : Program} {w : World} {E : Value → Shared → Prop} {K : Frag} {p : Program} {loose : List Str} {mean mean' : ExcName → Option Value} {mg mb m : Str → Option Value} {s₁ : Shared} {h₁ : Heap} {tk : Tok} {nm : Str} {fa : Addr} {cd : Value}
    {l : Addr} {vs : List Value} {ns : List Int} {c : ClaimW} {cl : Str → Option Addr} {args : List WData} {dr : _}
    (N : Fns K) (nb : ∀ x ∈ ("bool" : Str) :: builtins, nsIn K mainGlobals x = some none) (us : ∀ f ∈ users, ∃ fa, nsIn K mainGlobals f = some (some (.ref fa)) ∧ keepIn K (.ref fa) = true)
    (hn : ∀ cls, c.raises args cls = false) (hp : c.post args (.bool true) args = true)
    (KX : K.In s₁.heap) (T : Top p loose mean' mg mb s₁.heap) (F : Fr s₁.heap s₁.heap.objs.size h₁ m) (hx : m (Str.ofString "script") = some (.ref l)) (hL : s₁.heap.IsList l vs.toArray) (hI : IntsAre vs ns) (hc : ¬ (63 : Int) < (ns.length : Int)) (hg : s₁.gens = #[]) :
    wpAny (model prog w) (callerA.deeper (envOf nm (scopeAt 13) s₁.heap.objs.size fa cd)) (execs (bodyAt 13) (envOf nm (scopeAt 13) s₁.heap.objs.size fa cd))
      (fun f s' => GoodW c cl mean args s₁ (.ok (.ret (match f with | .ret v => v | _ => .none))) s') E { heap := h₁, gens := s₁.gens, drawn := dr, toks := tk, os := s₁.os } := by
  obtain ⟨b0, e1, e2, G⟩ := gd_of KX (topRead_of T) nb us
  have F0 : Fr b0 s₁.heap.objs.size h₁ m := ⟨F.ns, fun b o e => F.keep b o ((e1 b).symm.trans e), e2⟩
  refine law_wp (s := { heap := h₁, gens := s₁.gens, drawn := dr, toks := tk, os := s₁.os }) G N ⟨rfl, (by show callerA.depth + 1 + 4 ≤ 900; decide), (by show callerA.units + 3 + 3 * 4 ≤ 9000; decide)⟩ F0 hx (hL.at fun o e => F.keep _ o e) (ints_A2 hI) (by lia) fun s' mc' F' g o => ?_
  exact goodW_bool (b := true) ⟨F'.ns, fun b o e => F'.keep b o ((e1 b).trans e), Nat.le_refl _⟩ (g.trans hg) hn hp o
end Mine

/-! T8 -/
open PySem PySem.W PyProof.Rows
set_option maxHeartbeats 8000000 in
theorem PySem.Challenge.cw_sj0026_01_holds : PySem.Challenge.rw_sj0026_01.Holds :=
  Mine.hd (by
  k_go0
  refine' Mine.fin_law ?N ?nb ?us ?hn ?hp ?KX ?T ?F ?hx ?hL ?hI ?hc ?hg
  case KX => assumption
  case T => assumption
  case F => assumption
  case hL => assumption
  case hI => assumption
  case hc => assumption
  case hg => assumption
  case N => exact Mine.fns _
  case nb => exact Mine.nbs _
  case us => exact Mine.uss _
  case hx => rfl
  case hn => exact fun _ => rfl
  case hp => (first | wrow_post | (simp [PySem.Challenge.rw_sj0026_01]; done) | (show _ = true; decide)))
