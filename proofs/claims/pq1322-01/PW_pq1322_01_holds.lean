import PyProof.Rows.All
import Wide.All
import OpenK.AllK
import Wide.FinOn
import Lean
import PySem.Challenge.RW_pq1322_01
open PySem PySem.W PySem.Spec PySem.Calls PyProof.Rows
set_option Elab.async false
set_option maxRecDepth 100000
set_option linter.unusedVariables false
set_option genSizeOf false
set_option compiler.extract_closed false
set_option bootstrap.genMatcherCode false
set_option genInjectivity false
namespace Mine
noncomputable section
inductive SV where
  | none | bool (b : Bool) | int (i : Int) | str (x : Str) | tup (l : List SV) | own (i : Nat) | glo (a : Nat) | prim (v : Value) | rng (n : Int) | blist (v : Value) (xs : List Int)
inductive SL where
  | lit (l : List SV) | ints (xs : List Int) | oints (xs : List (Option Int)) | frs (xs : List (Int × Int)) | ofrs (xs : List (Option (Int × Int))) | rep (n : Nat) (v : SV)
inductive SO where
  | list (l : SL) | inst (c d : Nat) | idict (l : List (Str × SV)) | sdict (l : List (Str × SV)) | tab (b : Bool)
structure St where
  loc : List (Str × SV)
  led : List SO
inductive Fl where
  | next | brk | cont | ret (v : SV)

noncomputable def fr (p : Int × Int) : SV := .tup [.int p.1, .int p.2]
noncomputable def ofr : Option (Int × Int) → SV
  | .none => .none
  | .some p => fr p
noncomputable def oin : Option Int → SV
  | .none => .none
  | .some i => .int i
noncomputable def SL.den : SL → List SV
  | .lit l => l
  | .ints xs => xs.map .int
  | .oints xs => xs.map oin
  | .frs xs => xs.map fr
  | .ofrs xs => xs.map ofr
  | .rep n v => List.replicate n v
noncomputable def SL.len : SL → Nat
  | .lit l => l.length
  | .ints xs => xs.length
  | .oints xs => xs.length
  | .frs xs => xs.length
  | .ofrs xs => xs.length
  | .rep n _ => n

-- names
noncomputable def natsEq : List Nat → List Nat → Bool
  | [], [] => true
  | x :: xs, y :: ys => match Nat.beq x y with | true => natsEq xs ys | false => false
  | _, _ => false
noncomputable def strEq (a b : Str) : Bool := natsEq a.cps.toList b.cps.toList
noncomputable def get {α : Type} : List (Str × α) → Str → Option α
  | [], _ => .none
  | p :: r, x => match strEq p.1 x with | true => .some p.2 | false => get r x
noncomputable def put : List (Str × SV) → Str → SV → List (Str × SV)
  | [], x, v => [(x, v)]
  | p :: r, x, v => match strEq p.1 x with | true => (p.1, v) :: r | false => p :: put r x v
noncomputable def brn (c : Bool) (A B : Prop) : Prop := match c with | true => A | false => B
noncomputable def agree : List (Str × SV) → List (Str × SV) → Prop
  | [], _ => True
  | p :: r, l => get l p.1 = .some p.2 ∧ agree r l
noncomputable def St.le (t s : St) : Prop := s.led = t.led ∧ agree t.loc s.loc
noncomputable def setN {α : Type} : List α → Nat → α → List α
  | [], _, _ => []
  | _ :: r, 0, a => a :: r
  | x :: r, n + 1, a => x :: setN r n a
noncomputable def atN {α : Type} : List α → Nat → Option α
  | [], _ => .none
  | x :: _, 0 => .some x
  | _ :: r, n + 1 => atN r n
noncomputable def rangeL (n : Int) : List Int := (List.range n.toNat).map Int.ofNat

noncomputable abbrev Spec := List SV → List SO → (SV → List SO → Prop) → Prop
noncomputable abbrev Sc := List (Str × NameKind)
noncomputable abbrev KV := SV → St → Prop
noncomputable abbrev KF := Fl → St → Prop
noncomputable def noSpec : Spec := fun _ _ _ => False
inductive Inv : Type 1 where
  | ints (α : Type) (S : St → α → St) (P : St → List Int → α → Prop)
  | oints (α : Type) (S : St → α → St) (P : St → List (Option Int) → α → Prop)
  | frs (α : Type) (S : St → α → St) (P : St → List (Int × Int) → α → Prop)
  | ofrs (α : Type) (S : St → α → St) (P : St → List (Option (Int × Int)) → α → Prop)
  | lcints (α : Type) (S : St → α → List SO) (A : α → SL) (P : St → List Int → α → Prop)
  | lcoints (α : Type) (S : St → α → List SO) (A : α → SL) (P : St → List (Option Int) → α → Prop)
  | lcfrs (α : Type) (S : St → α → List SO) (A : α → SL) (P : St → List (Int × Int) → α → Prop)
  | lcofrs (α : Type) (S : St → α → List SO) (A : α → SL) (P : St → List (Option (Int × Int)) → α → Prop)
  | wh (α : Type) (S : St → α → St) (P : St → α → Prop) (μ : α → Nat)
  | cut (α : Type) (S : St → α → St) (P : St → α → Prop)
structure Cfg where
  gl : List (Str × SV)
  call : List (Nat × Spec)
  inv : List (Nat × Inv)
  bl : Value → List Int → Prop
noncomputable def invAt : List (Nat × Inv) → Nat → Option Inv
  | [], _ => .none
  | p :: r, a => match Nat.beq p.1 a with | true => .some p.2 | false => invAt r a
noncomputable def specOf : List (Nat × Spec) → Nat → Spec
  | [], _ => noSpec
  | p :: r, a => match Nat.beq p.1 a with | true => p.2 | false => specOf r a

-- an object as data, for comparisons
noncomputable def notNone : SV → Bool
  | .none => false
  | _ => true
noncomputable def strsOf : List SV → Option (List Str)
  | [] => .some []
  | v :: r => match v with
    | .str x => match strsOf r with
      | .some l => .some (x :: l)
      | .none => .none
    | _ => .none
noncomputable def anyStr : List Str → Str → Bool
  | [], _ => false
  | y :: r, x => match strEq y x with | true => true | false => anyStr r x
noncomputable def itemOf (led : List SO) (i : Nat) : Option SL := match atN led i with
  | .some o => match o with
    | .list l => .some l
    | _ => .none
  | .none => .none

noncomputable def elemD : SV → Option PyData
  | .none => .some .none
  | .bool b => .some (.bool b)
  | .int i => .some (.int i)
  | .str x => .some (.str x)
  | _ => .none
noncomputable def elemsD : List SV → Option (List PyData)
  | [] => .some []
  | v :: r => match elemD v with
    | .some d => match elemsD r with
      | .some l => .some (d :: l)
      | .none => .none
    | .none => .none
noncomputable def itemD : SV → Option PyData
  | .tup l => match elemsD l with
    | .some l => .some (.tuple l)
    | .none => .none
  | v => elemD v
noncomputable def itemsD : List SV → Option (List PyData)
  | [] => .some []
  | v :: r => match itemD v with
    | .some d => match itemsD r with
      | .some l => .some (d :: l)
      | .none => .none
    | .none => .none
noncomputable def valD (led : List SO) : SV → Option PyData
  | .own i => match itemOf led i with
    | .some l => match itemsD l.den with
      | .some l => .some (.list l)
      | .none => .none
    | .none => .none
  | v => itemD v
noncomputable def valsD (led : List SO) : List SV → Option (List PyData)
  | [] => .some []
  | v :: r => match valD led v with
    | .some d => match valsD led r with
      | .some l => .some (d :: l)
      | .none => .none
    | .none => .none
-- comparisons
noncomputable def cmpEq (led : List SO) (a b : SV) (K : Bool → Prop) : Prop := match a with
  | .int i => match b with
    | .int j => K (decide (i = j))
    | .none => K false
    | _ => False
  | .none => match b with
    | .none => K true
    | .int _ => K false
    | _ => False
  | .str x => match b with
    | .str y => K (strEq x y)
    | _ => False
  | .tup l => match b with
    | .tup m => ∃ x y, (valsD led l = .some x ∧ valsD led m = .some y) ∧ (PySem.SeqAt.shaped (.tuple x) = true ∧ PySem.SeqAt.shaped (.tuple y) = true) ∧ K (PyData.eqv (.tuple x) (.tuple y))
    | _ => False
  | _ => False
noncomputable def cmpNe (led : List SO) (a b : SV) (K : Bool → Prop) : Prop := match a with
  | .int i => match b with
    | .int j => K (!decide (i = j))
    | _ => False
  | _ => False
/-- x != [], the empty list being nobody's -/
noncomputable def neNil (op : CmpOp) (led : List SO) (a : SV) (K : Bool → Prop) : Prop := match op with
  | .NotEq => match a with
    | .own i => match itemOf led i with
      | .some (.ints xs) => K (!decide (xs = []))
      | _ => False
    | _ => False
  | _ => False
noncomputable def isNilE : Expr → Bool
  | .List es _ => match es with
    | [] => true
    | _ => false
  | _ => false
noncomputable def isPrim : SV → Bool
  | .prim _ => true
  | .blist .. => true
  | _ => false
noncomputable def cmpIs (a b : SV) (K : Bool → Prop) : Prop := match b with
  | .none => match isPrim a with
    | true => False
    | false => K (!notNone a)
  | _ => False
noncomputable def cmpIsNot (a b : SV) (K : Bool → Prop) : Prop := match b with
  | .none => match isPrim a with
    | true => False
    | false => K (notNone a)
  | _ => False
noncomputable def cmpIn (led : List SO) (a b : SV) (K : Bool → Prop) : Prop := match a with
  | .str x => match b with
    | .tup l => match strsOf l with
      | .some ys => K (anyStr ys x)
      | .none => False
    | .own j => match itemOf led j with
      | .some (.lit l) => match strsOf l with
        | .some ys => K (anyStr ys x)
        | .none => False
      | _ => False
    | _ => False
  | _ => False
noncomputable def cmpOrd (op : CmpOp) (a b : SV) (K : Bool → Prop) : Prop := match a with
  | .int i => match b with
    | .int j => match op with
      | .Lt => K (decide (i < j))
      | .LtE => K (decide (i ≤ j))
      | .Gt => K (decide (j < i))
      | .GtE => K (decide (j ≤ i))
      | _ => False
    | _ => False
  | _ => False
noncomputable def cmp (op : CmpOp) (led : List SO) (a b : SV) (K : Bool → Prop) : Prop := match op with
  | .Eq => cmpEq led a b K
  | .NotEq => cmpNe led a b K
  | .Is => cmpIs a b K
  | .IsNot => cmpIsNot a b K
  | .In => cmpIn led a b K
  | .NotIn => match b with
    | .tup _ => cmpIn led a b fun c => K (!c)
    | _ => False
  | op => cmpOrd op a b K

-- arithmetic
noncomputable def intOp (op : Operator) (i j : Int) (K : Int → Prop) : Prop := match op with
  | .Add => K (i + j)
  | .Sub => K (i - j)
  | .Mult => IntMulOk i j ∧ K (i * j)
  | .FloorDiv => j ≠ 0 ∧ K (i.fdiv j)
  | .Mod => j ≠ 0 ∧ K (i.fmod j)
  | _ => False
noncomputable def newObj (o : SO) (s : St) (K : KV) : Prop := K (.own s.led.length) { s with led := s.led ++ [o] }
noncomputable def repOf (n : Int) (v : SV) : SL := match v with
  | .int i => .ints (List.replicate n.toNat i)
  | v => .rep n.toNat v
noncomputable def binop (op : Operator) (a b : SV) (s : St) (K : KV) : Prop := match a with
  | .int i => match b with
    | .int j => intOp op i j fun k => K (.int k) s
    | _ => False
  | .own i => match b with
    | .own j => match op with
      | .Add => match itemOf s.led i with
        | .some (.lit l) => match itemOf s.led j with
          | .some (.lit m) => match Nat.ble (l.length + m.length) 1000 with
            | true => newObj (.list (.lit (l ++ m))) s K
            | false => False
          | _ => False
        | _ => False
      | _ => False
    | .int n => match op with
      | .Mult => match itemOf s.led i with
        | .some (.lit [v]) => (0 ≤ n ∧ n ≤ 100) ∧ newObj (.list (repOf n v)) s K
        | _ => False
      | _ => False
    | _ => False
  | _ => False

-- items
noncomputable def isSlice : Expr → Bool
  | .Slice .. => true
  | _ => false
noncomputable def litIdx : Expr → Option Nat
  | .Constant c _ _ => match c with
    | .int i => match i with
      | .ofNat k => .some k
      | .negSucc _ => .none
    | _ => .none
  | _ => .none
noncomputable def itemAt (l : SL) (i : Int) (K : SV → Prop) : Prop := match l with
  | .lit l => 0 ≤ i ∧ i < 1000 ∧ ∃ x, atN l i.toNat = .some x ∧ K x
  | .ints xs => (0 ≤ i ∧ i < xs.length ∧ i < 1000) ∧ K (.int (xs.getD i.toNat 0))
  | .frs xs => (0 ≤ i ∧ i < xs.length ∧ i < 1000) ∧ K (fr (xs.getD i.toNat (0, 0)))
  | _ => False
noncomputable def itemLit (l : SL) (k : Nat) (K : SV → Prop) : Prop := match l with
  | .lit l => match Nat.ble k 1000 with
    | true => match atN l k with
      | .some x => K x
      | .none => False
    | false => False
  | _ => False
noncomputable def setLit (l : SL) (i : Int) (v : SV) (K : SL → Prop) : Prop := match l with
  | .lit l => (0 ≤ i ∧ i < l.length ∧ i < 1000) ∧ K (.lit (setN l i.toNat v))
  | .ints xs => match v with
    | .int z => (0 ≤ i ∧ i < xs.length ∧ i < 1000) ∧ K (.ints (setN xs i.toNat z))
    | _ => False
  | _ => False
noncomputable def sliceOf (l : SL) (lo hi : Option Nat) (K : SL → Prop) : Prop := match l with
  | .lit l => match hi with
    | .some k => match lo with
      | .none => K (.lit (l.take k))
      | .some _ => False
    | .none => match lo with
      | .some k => K (.lit (l.drop k))
      | .none => False
  | .ints xs => match hi with
    | .some k => match lo with
      | .none => K (.ints (xs.take k))
      | .some _ => False
    | .none => False
  | _ => False
noncomputable def optLit : Option Expr → Option (Option Nat)
  | .none => .some .none
  | .some e => match litIdx e with
    | .some k => .some (.some k)
    | .none => .none

-- attributes
noncomputable def vecAttr (name : Str) : Bool := anyStr ["kind", "items", "attrs", "shared", "loose"] name
noncomputable def attrOf (led : List SO) (v : SV) (name : Str) : Option SV := match v with
  | .own i => match atN led i with
    | .some o => match o with
      | .inst c d => match Nat.beq c 220 with
        | true => match vecAttr name with
          | true => match atN led d with
            | .some o' => match o' with
              | .idict l => match get l name with
                | .some x => match isPrim x with
                  | true => .none
                  | false => .some x
                | .none => .none
              | _ => .none
            | .none => .none
          | false => .none
        | false => .none
      | _ => .none
    | .none => .none
  | _ => .none
noncomputable def attrPut (led : List SO) (v : SV) (name : Str) (x : SV) : Option (List SO) := match v with
  | .own i => match atN led i with
    | .some o => match o with
      | .inst c d => match Nat.beq c 220 with
        | true => match vecAttr name with
          | true => match atN led d with
            | .some o' => match o' with
              | .idict l => match get l name with
                | .some _ => .some (setN led d (.idict (put l name x)))
                | .none => match Nat.ble l.length 50 with
                  | true => .some (setN led d (.idict (put l name x)))
                  | false => .none
              | _ => .none
            | .none => .none
          | false => .none
        | false => .none
      | _ => .none
    | .none => .none
  | _ => .none

-- calls of what is built in
noncomputable def isNm (a b : Str) : Bool := strEq a b
noncomputable def snocL (l : SL) (v : SV) (K : SL → Prop) : Prop := match l with
  | .lit l => K (.lit (l ++ [v]))
  | .ints xs => match v with
    | .int z => K (.ints (xs ++ [z]))
    | _ => False
  | _ => False
noncomputable def countL (l : SL) (v : SV) (K : Int → Prop) : Prop := match l with
  | .ints xs => match v with
    | .int i => K (xs.count i)
    | _ => False
  | .oints xs => match v with
    | .int i => K (xs.count (.some i))
    | .none => K (xs.count .none)
    | _ => False
  | _ => False
noncomputable def popL (l : SL) (K : Int → SL → Prop) : Prop := match l with
  | .ints xs => xs ≠ [] ∧ K (xs.headD 0) (.ints xs.tail)
  | _ => False
noncomputable def smallL (l : SL) : Prop := match l with
  | .lit l => match Nat.ble l.length 1000 with | true => True | false => False
  | l => l.len ≤ 1000
noncomputable def method (v : SV) (name : Str) (args : List SV) (s : St) (K : KV) : Prop := match v with
  | .own i => match atN s.led i with
    | .some o => match o with
      | .list l => match strEq name "append" with
        | true => match args with
          | [x] => smallL l ∧ snocL l x fun l' => K .none { s with led := setN s.led i (.list l') }
          | _ => False
        | false => match strEq name "count" with
          | true => match args with
            | [x] => l.len ≤ 1000 ∧ countL l x fun n => K (.int n) s
            | _ => False
          | false => match strEq name "pop" with
            | true => match args with
              | [x] => match x with
                | .int j => match j with
                  | .ofNat 0 => l.len ≤ 1000 ∧ popL l fun y l' => K (.int y) { s with led := setN s.led i (.list l') }
                  | _ => False
                | _ => False
              | _ => False
            | false => False
      | .sdict l => match strEq name "get" with
        | true => match args with
          | [x] => match x with
            | .str k => K ((get l k).getD .none) s
            | _ => False
          | _ => False
        | false => False
      | _ => False
    | .none => False
  | _ => False
noncomputable def idEq (a b : String) : Bool := decide (a = b)
noncomputable def builtinCall (id : String) (args : List SV) (s : St) (K : KV) : Prop := match idEq id "len" with
  | true => match args with
    | [v] => match v with
      | .own i => match itemOf s.led i with
        | .some l => smallL l ∧ K (.int l.len) s
        | .none => False
      | _ => False
    | _ => False
  | false => match idEq id "abs" with
    | true => match args with
      | [v] => match v with
        | .int i => K (.int (if i < 0 then -i else i)) s
        | _ => False
      | _ => False
    | false => match idEq id "isinstance" with
      | true => match args with
        | [v, t] => match v with
          | .own i => match atN s.led i with
            | .some o => match o with
              | .inst c _ => match t with
                | .glo a => match Nat.beq c a with
                  | true => match Nat.beq a 220 with
                    | true => K (.bool true) s
                    | false => False
                  | false => False
                | _ => False
              | _ => False
            | .none => False
          | _ => False
        | _ => False
      | false => match idEq id "sum" with
        | true => match args with
          | [v] => match v with
            | .own i => match itemOf s.led i with
              | .some (.ints xs) => K (.int xs.sum) s
              | _ => False
            | _ => False
          | _ => False
        | false => match idEq id "sorted" with
          | true => match args with
            | [v] => match v with
              | .own i => match itemOf s.led i with
                | .some (.ints xs) => xs.length < 64 ∧ ∀ ys : List Int, ys.Perm xs → ys.Pairwise (· ≤ ·) → newObj (.list (.ints ys)) s K
                | _ => False
              | _ => False
            | _ => False
          | false => False
noncomputable def typeCall (id : String) (args : List SV) (s : St) (K : KV) : Prop := match idEq id "str" with
  | true => match args with
    | [v] => match v with
      | .int i => (-1000000 ≤ i ∧ i ≤ 1000000) ∧ K (.str (Str.ofString (toString i))) s
      | _ => False
    | _ => False
  | false => match idEq id "list" with
    | true => match args with
      | [v] => match v with
        | .own i => match itemOf s.led i with
          | .some l => smallL l ∧ newObj (.list l) s K
          | .none => False
        | _ => False
      | _ => False
    | false => match idEq id "range" with
      | true => match args with
        | [v] => match v with
          | .int n => (0 ≤ n ∧ n ≤ 1000) ∧ K (.rng n) s
          | _ => False
        | _ => False
      | false => False
noncomputable def callV (C : Cfg) (f : SV) (args : List SV) (s : St) (K : KV) : Prop := match f with
  | .glo a => specOf C.call a args s.led fun v led => K v { s with led := led }
  | .prim v => match v with
    | .builtin id => builtinCall id args s K
    | .type T => typeCall T args s K
    | _ => False
  | _ => False

/-- what is met at the object ahead of the arguments -/
noncomputable def methKind (v : SV) (name : Str) (s : St) (K : Unit → Prop) : Prop := match v with
  | .own i => match atN s.led i with
    | .some o => match o with
      | .list _ => match anyStr ["append", "count", "pop"] name with
        | true => K ()
        | false => False
      | .sdict _ => match strEq name "get" with
        | true => K ()
        | false => False
      | _ => False
    | .none => False
  | _ => False
noncomputable def hasSpec : List (Nat × Spec) → Nat → Bool
  | [], _ => false
  | p :: r, a => match Nat.beq p.1 a with | true => true | false => hasSpec r a
noncomputable def callKind (C : Cfg) (f : SV) (K : Unit → Prop) : Prop := match f with
  | .glo a => match hasSpec C.call a with
    | true => K ()
    | false => False
  | .prim v => match v with
    | .builtin _ => K ()
    | .type _ => K ()
    | _ => False
  | _ => False
-- the walk
structure Bun where
  ev : Sc → Expr → St → KV → Prop
  tst : Sc → Expr → St → (Bool → St → Prop) → Prop
  ex : Sc → Stmt → St → KF → Prop
noncomputable def evsW (B : Bun) (sc : Sc) : List Expr → St → (List SV → St → Prop) → Prop
  | [], s, K => K [] s
  | e :: r, s, K => B.ev sc e s fun v s' => evsW B sc r s' fun vs s'' => K (v :: vs) s''
noncomputable def nameW (C : Cfg) (sc : Sc) (x : Str) (s : St) (K : KV) : Prop := match get s.loc x with
  | .some v => K v s
  | .none => match get sc x with
    | .some k => match k with
      | .globalImplicit => match get C.gl x with
        | .some v => K v s
        | .none => False
      | _ => False
    | .none => False
noncomputable def constW (c : Const) (s : St) (K : KV) : Prop := match c with
  | .none => K .none s
  | .bool b => K (.bool b) s
  | .int i => K (.int i) s
  | .str x => K (.str x) s
  | _ => False
noncomputable def andW (B : Bun) (sc : Sc) : List Expr → St → (Bool → St → Prop) → Prop
  | [], s, K => K true s
  | e :: r, s, K => B.tst sc e s fun c s' => brn c (andW B sc r s' K) (K false s')
noncomputable def orW (B : Bun) (sc : Sc) : List Expr → St → (Bool → St → Prop) → Prop
  | [], s, K => K false s
  | e :: r, s, K => B.tst sc e s fun c s' => brn c (K true s') (orW B sc r s' K)
noncomputable def truthW (v : SV) (s : St) (K : Bool → Prop) : Prop := match v with
  | .none => K false
  | .bool c => K c
  | .int i => K (!decide (i = 0))
  | .own i => match itemOf s.led i with
    | .some l => smallL l ∧ K (decide (0 < l.len))
    | .none => False
  | _ => False
noncomputable def andV (B : Bun) (sc : Sc) : List Expr → St → KV → Prop
  | [], _, _ => False
  | e :: r, s, K => match r with
    | [] => B.ev sc e s K
    | _ :: _ => B.ev sc e s fun v s' => truthW v s' fun c => brn c (andV B sc r s' K) (K v s')
noncomputable def orV (B : Bun) (sc : Sc) : List Expr → St → KV → Prop
  | [], _, _ => False
  | e :: r, s, K => match r with
    | [] => B.ev sc e s K
    | _ :: _ => B.ev sc e s fun v s' => truthW v s' fun c => brn c (K v s') (orV B sc r s' K)
noncomputable def markE (op : CmpOp) (e : Expr) : Bool := behindInMarks op e
noncomputable def cmpW (B : Bun) (sc : Sc) (l : Expr) (ops : List CmpOp) (rs : List Expr) (s : St) (K : Bool → St → Prop) : Prop := match ops with
  | [] => False
  | op :: ops' => match rs with
    | [] => False
    | r :: rs' => match ops' with
      | [] => match rs' with
        | [] => match markE op r with
          | true => False
          | false => match isNilE r with
            | true => B.ev sc l s fun a s₁ => neNil op s₁.led a fun c => K c s₁
            | false => B.ev sc l s fun a s₁ => B.ev sc r s₁ fun b s₂ => cmp op s₂.led a b fun c => K c s₂
        | _ :: _ => False
      | op2 :: ops'' => match ops'' with
        | [] => match rs' with
          | [] => False
          | r2 :: rs'' => match rs'' with
            | [] => match markE op2 r2 with
              | true => False
              | false => B.ev sc l s fun a s₁ => B.ev sc r s₁ fun b s₂ => cmp op s₂.led a b fun c => brn c (B.ev sc r2 s₂ fun d s₃ => cmp op2 s₃.led b d fun c2 => K c2 s₃) (K false s₂)
            | _ :: _ => False
        | _ :: _ => False
noncomputable def isSetE : Expr → Bool
  | .Set .. => true
  | _ => false
noncomputable def okNames (sc : Sc) : Bool := sc.all fun p => !strEq p.1 "__debug__" && !strEq p.1 "__classdict__"
noncomputable def isCallE : Expr → Bool
  | .Call .. => true
  | _ => false
noncomputable def isStarE : Expr → Bool
  | .Starred .. => true
  | _ => false
noncomputable def noStar : List Expr → Bool
  | [] => true
  | e :: r => match isStarE e with
    | true => false
    | false => noStar r
noncomputable def isName : Expr → Bool
  | .Name .. => true
  | _ => false
noncomputable def sliceW (bl : Value → List Int → Prop) (name : Bool) (v : SV) (lo hi : Option Expr) (s : St) (K : KV) : Prop := match name with
  | false => False
  | true => match optLit lo with
    | .some lo' => match optLit hi with
      | .some hi' => match v with
        | .own i => match itemOf s.led i with
          | .some l => smallL l ∧ sliceOf l lo' hi' fun l' => newObj (.list l') s K
          | .none => False
        | .blist v xs => (bl v xs ∧ xs.length ≤ 1000) ∧ sliceOf (.ints xs) lo' hi' fun l' => newObj (.list l') s K
        | _ => False
      | .none => False
    | .none => False
noncomputable def atW (v iv : SV) (s : St) (K : KV) : Prop := match iv with
  | .int k => match v with
    | .own i => match itemOf s.led i with
      | .some l => itemAt l k fun x => K x s
      | .none => False
    | _ => False
  | .str k => match v with
    | .own i => match atN s.led i with
      | .some o => match o with
        | .sdict l => match get l k with
          | .some x => K x s
          | .none => False
        | _ => False
      | .none => False
    | _ => False
  | _ => False
noncomputable def atLit (v : SV) (k : Nat) (s : St) (K : KV) : Prop := match v with
  | .tup l => itemLit (.lit l) k fun x => K x s
  | .own i => match itemOf s.led i with
    | .some l => match l with
      | .lit _ => itemLit l k fun x => K x s
      | l => itemAt l k fun x => K x s
    | .none => False
  | _ => False
noncomputable def subW (bl : Value → List Int → Prop) (B : Bun) (sc : Sc) (name : Bool) (v : SV) (slice : Expr) (s : St) (K : KV) : Prop := match slice with
  | .Slice lo hi st _ => match st with
    | .some _ => False
    | .none => sliceW bl name v lo hi s K
  | e => match litIdx e with
    | .some k => atLit v k s K
    | .none => B.ev sc e s fun iv s' => atW v iv s' K
/-- a list display at a name: nobody's list -/
noncomputable def litSub (v i : Expr) : Option (List Expr × Str) := match v with
  | .List es _ => match i with
    | .Name x _ => .some (es, x)
    | _ => .none
  | _ => .none
noncomputable def atList (vs : List SV) (iv : SV) (K : SV → Prop) : Prop := match iv with
  | .int k => itemAt (.lit vs) k K
  | _ => False
/-- two numbers to choose from -/
noncomputable def twoLit (a b : Expr) : Option (Nat × Nat) := match litIdx a with
  | .some i => match litIdx b with
    | .some j => .some (i, j)
    | .none => .none
  | .none => .none
noncomputable def pick (c : Bool) (p : Nat × Nat) : Nat := match c with
  | true => p.1
  | false => p.2
noncomputable def keysOf : List (Option Expr) → Option (List Str)
  | [] => .some []
  | k :: r => match k with
    | .some e => match e with
      | .Constant c _ _ => match c with
        | .str x => match keysOf r with
          | .some l => .some (x :: l)
          | .none => .none
        | _ => .none
      | _ => .none
    | .none => .none
noncomputable def apartS : List Str → Bool
  | [] => true
  | x :: r => match anyStr r x with
    | true => false
    | false => apartS r
noncomputable def freeIn (sc : Sc) : List (Str × SV) → List (Str × SV)
  | [] => []
  | p :: r => match get sc p.1 with
    | .some k => match k with
      | .cell => p :: freeIn sc r
      | _ => freeIn sc r
    | .none => freeIn sc r
noncomputable def isLocal (sc : Sc) (x : Str) : Bool := match get sc x with
  | .some k => match k with
    | .local => true
    | _ => false
  | .none => false
-- comprehensions
noncomputable def condsW (B : Bun) (sc : Sc) (ifs : List Expr) (s : St) (K : Bool → St → Prop) : Prop := match ifs with
  | [] => K true s
  | c :: r => match r with
    | [] => B.tst sc c s K
    | _ :: _ => False
noncomputable def lcLit (B : Bun) (sc : Sc) (loc : List (Str × SV)) (x : Str) (elt : Expr) (ifs : List Expr) (ok : List SO → Prop) : List SV → List SV → List SO → (List SV → List SO → Prop) → Prop
  | [], acc, led, K => K acc led
  | v :: r, acc, led, K => condsW B sc ifs ⟨(x, v) :: loc, led⟩ fun c s => brn c (B.ev sc elt s fun y s' => agree loc s'.loc ∧ ok s'.led ∧ lcLit B sc loc x elt ifs ok r (acc ++ [y]) s'.led K) (agree loc s.loc ∧ ok s.led ∧ lcLit B sc loc x elt ifs ok r acc s.led K)
/-- every item of a list: an item that may lack is looked at twice -/
noncomputable def qAll {β : Type} (P : β → Prop) : Prop := ∀ b, P b
noncomputable def qOpt {β : Type} (P : Option β → Prop) : Prop := P .none ∧ ∀ b, P (.some b)
noncomputable def lcInv {β : Type} (q : (β → Prop) → Prop) (emb : β → SV) (same : List SO → Prop) (B : Bun) (sc : Sc) (loc : List (Str × SV)) (x : Str) (elt : Expr) (ifs : List Expr) (xs : List β) (s₀ : St)
    (α : Type) (S : St → α → List SO) (A : α → SL) (P : St → List β → α → Prop) (K : SL → List SO → Prop) : Prop :=
  (∃ a, P s₀ [] a ∧ s₀.led = S s₀ a ∧ (A a).den = []) ∧ (∀ a, same (S s₀ a)) ∧
    (∀ done, q fun b => ∀ rest a, xs = done ++ b :: rest → P s₀ done a → condsW B sc ifs ⟨(x, emb b) :: loc, S s₀ a⟩ fun c s =>
      brn c (B.ev sc elt s fun y s' => agree loc s'.loc ∧ ∃ a', P s₀ (done ++ [b]) a' ∧ s'.led = S s₀ a' ∧ (A a').den = (A a).den ++ [y])
        (agree loc s.loc ∧ ∃ a', P s₀ (done ++ [b]) a' ∧ s.led = S s₀ a' ∧ (A a').den = (A a).den)) ∧
    (∀ a, P s₀ xs a → (A a).len ≤ 1000 ∧ K (A a) (S s₀ a))
noncomputable def same (i : Nat) (l : SL) (led : List SO) : Prop := atN led i = .some (.list l)
noncomputable def lcOver (C : Cfg) (B : Bun) (sc : Sc) (loc : List (Str × SV)) (x : Str) (elt : Expr) (ifs : List Expr) (it : SV) (s : St) (K : KV) : Prop :=
  let fin := fun (l : SL) (led : List SO) => newObj (.list l) { s with led := led } K
  match it with
  | .rng n => match invAt C.inv elt.pos.line with
    | .some (.lcints α S A P) => lcInv qAll SV.int (fun _ => True) B sc loc x elt ifs (rangeL n) s α S A P fin
    | _ => False
  | .own i => match itemOf s.led i with
    | .some l => match l with
      | .lit vs => match Nat.ble vs.length 1000 with
        | true => lcLit B sc loc x elt ifs (same i l) vs [] s.led fun acc led => fin (.lit acc) led
        | false => False
      | .ints xs => match invAt C.inv elt.pos.line with
        | .some (.lcints α S A P) => smallL l ∧ lcInv qAll SV.int (same i l) B sc loc x elt ifs xs s α S A P fin
        | _ => False
      | .oints xs => match invAt C.inv elt.pos.line with
        | .some (.lcoints α S A P) => smallL l ∧ lcInv qOpt oin (same i l) B sc loc x elt ifs xs s α S A P fin
        | _ => False
      | .frs xs => match invAt C.inv elt.pos.line with
        | .some (.lcfrs α S A P) => smallL l ∧ lcInv qAll fr (same i l) B sc loc x elt ifs xs s α S A P fin
        | _ => False
      | .ofrs xs => match invAt C.inv elt.pos.line with
        | .some (.lcofrs α S A P) => smallL l ∧ lcInv qOpt ofr (same i l) B sc loc x elt ifs xs s α S A P fin
        | _ => False
      | .rep .. => False
    | .none => False
  | _ => False
noncomputable def relab (sc : Sc) : List (Str × NameKind) → List (Str × NameKind)
  | [] => []
  | p :: r => (match p.2 with
    | .free => match get sc p.1 with
      | .some k => match k with
        | .cell => (p.1, .cell)
        | _ => p
      | .none => p
    | _ => p) :: relab sc r
/-- a comprehension's own scope: locals once, no cells, what is free is a cell of the frame -/
noncomputable def compSc (sc : Sc) : List (Str × NameKind) → Bool
  | [] => true
  | p :: r => match get r p.1 with
    | .some _ => false
    | .none => match p.2 with
      | .local => compSc sc r
      | .globalImplicit => compSc sc r
      | .free => match get sc p.1 with
        | .some k => match k with
          | .cell => compSc sc r
          | _ => false
        | .none => false
      | _ => false
noncomputable def isFun : ScopeKind → Bool
  | .function => true
  | _ => false
noncomputable def isZero : Int → Bool
  | .ofNat n => Nat.beq n 0
  | .negSucc _ => false
noncomputable def compW (C : Cfg) (B : Bun) (sc : Sc) (elt : Expr) (gens : List Comprehension) (scope : Scope) (s : St) (K : KV) : Prop := match gens with
  | [] => False
  | g :: r => match r with
    | _ :: _ => False
    | [] => match g.target with
      | .Name x _ => match isLocal scope.names x with
        | true => match compSc sc scope.names with
          | true => match okNames scope.names with
            | true => match isFun scope.kind with
              | true => match isZero g.is_async with
                | true => match isSetE g.iter with
                  | false => B.ev sc g.iter s fun it s' => lcOver C B (relab sc scope.names) (freeIn (relab sc scope.names) s'.loc) x elt g.ifs it s' K
                  | true => False
                | false => False
              | false => False
            | false => False
          | false => False
        | false => False
      | _ => False
noncomputable def evW (C : Cfg) (B : Bun) (sc : Sc) (e : Expr) (s : St) (K : KV) : Prop := match e with
  | .Constant c _ _ => constW c s K
  | .Name x _ => nameW C sc x s K
  | .BinOp l op r _ => B.ev sc l s fun a s₁ => B.ev sc r s₁ fun b s₂ => binop op a b s₂ K
  | .UnaryOp op x _ => match op with
    | .USub => B.ev sc x s fun v s' => match v with
      | .int i => K (.int (-i)) s'
      | _ => False
    | _ => False
  | .BoolOp op vs _ => match op with
    | .And => andV B sc vs s K
    | .Or => orV B sc vs s K
  | .Compare l ops rs _ => match ops with
    | [_] => cmpW B sc l ops rs s fun c s' => K (.bool c) s'
    | _ => False
  | .IfExp t a b _ => match twoLit a b with
    | .some p => B.tst sc t s fun c s' => K (.int (Int.ofNat (pick c p))) s'
    | .none => B.tst sc t s fun c s' => brn c (B.ev sc a s' K) (B.ev sc b s' K)
  | .Tuple es _ _ => match Nat.ble es.length 1000 with
    | true => match noStar es with
      | true => evsW B sc es s fun vs s' => K (.tup vs) s'
      | false => False
    | false => False
  | .List es _ => match Nat.ble es.length 1000 with
    | true => match noStar es with
      | true => evsW B sc es s fun vs s' => newObj (.list (.lit vs)) s' K
      | false => False
    | false => False
  | .Dict ks vs _ => match keysOf ks with
    | .some names => match Nat.beq names.length vs.length with
      | true => match Nat.ble names.length 15 with
        | true => match apartS names with
          | true => match names with
            | [] => False
            | _ :: _ => evsW B sc vs s fun us s' => newObj (.sdict (names.zip us)) s' K
          | false => False
        | false => False
      | false => False
    | .none => False
  | .Attribute v name _ => match isCallE v with
    | true => False
    | false => B.ev sc v s fun u s' => match attrOf s'.led u name with
      | .some x => K x s'
      | .none => False
  | .Subscript v i _ => match litSub v i with
    | .some p => match Nat.ble p.1.length 1000 with
      | true => match noStar p.1 with
        | true => evsW B sc p.1 s fun vs s' => nameW C sc p.2 s' fun iv s'' => atList vs iv fun y => K y s''
        | false => False
      | false => False
    | .none => B.ev sc v s fun u s' => subW C.bl B sc (isName v) u i s' K
  | .Call f args kws pos => match kws with
    | _ :: _ => False
    | [] => match args with
      | [] => False
      | a :: r => match noStar (a :: r) with
        | false => False
        | true => match f with
          | .Attribute o name apos => match isCallE o with
            | true => False
            | false => match Nat.beq apos.endLine pos.line with
              | false => False
              | true => match Nat.ble (a :: r).length 20 with
                | false => False
                | true => B.ev sc o s fun u s' => methKind u name s' fun _ => evsW B sc (a :: r) s' fun vs s'' => method u name vs s'' K
          | .Name x _ => nameW C sc x s fun u s' => callKind C u fun _ => evsW B sc (a :: r) s' fun vs s'' => callV C u vs s'' K
          | _ => False
  | .ListComp elt gens scope _ => compW C B sc elt gens scope s K
  | _ => False
noncomputable def tstW (B : Bun) (sc : Sc) (e : Expr) (s : St) (K : Bool → St → Prop) : Prop := match e with
  | .UnaryOp op x _ => match op with
    | .Not => B.tst sc x s fun c s' => K (!c) s'
    | _ => B.ev sc e s fun v s' => truthW v s' fun c => K c s'
  | .BoolOp op vs _ => match op with
    | .And => andW B sc vs s K
    | .Or => orW B sc vs s K
  | .Compare l ops rs _ => cmpW B sc l ops rs s K
  | .IfExp .. => False
  | e => B.ev sc e s fun v s' => truthW v s' fun c => K c s'

-- statements
noncomputable def exsW (C : Cfg) (B : Bun) (sc : Sc) : List Stmt → St → KF → Prop
  | [], s, K => K .next s
  | st :: r, s, K => match invAt C.inv st.pos.line with
    | .some (.cut α S P) => (B.ex sc st s fun f s' => match f with
      | .next => ∃ a, P s a ∧ St.le (S s a) s'
      | f => K f s') ∧ ∀ a, P s a → exsW C B sc r (S s a) K
    | _ => B.ex sc st s fun f s' => match f with
      | .next => exsW C B sc r s' K
      | f => K f s'
noncomputable def namesOf : List Expr → Option (List Str)
  | [] => .some []
  | e :: r => match e with
    | .Name x _ => match namesOf r with
      | .some l => .some (x :: l)
      | .none => .none
    | _ => .none
noncomputable def putAll (sc : Sc) : List Str → List SV → St → (St → Prop) → Prop
  | [], [], s, K => K s
  | x :: xs, v :: vs, s, K => match isLocal sc x with
    | true => putAll sc xs vs { s with loc := put s.loc x v } K
    | false => False
  | _, _, _, _ => False
noncomputable def storeW (sc : Sc) (x : Str) (v : SV) (s : St) (K : St → Prop) : Prop := match get sc x with
  | .some k => match k with
    | .local => K { s with loc := put s.loc x v }
    | .cell => K { s with loc := put s.loc x v }
    | _ => False
  | .none => False
noncomputable def isComp : Expr → Bool
  | .ListComp .. => true
  | .SetComp .. => true
  | .DictComp .. => true
  | _ => false
noncomputable def targetW (sc : Sc) (t : Expr) (v : SV) (s : St) (K : St → Prop) : Prop := match t with
  | .Name x _ => storeW sc x v s K
  | .Tuple es _ _ => match namesOf es with
    | .some xs => match v with
      | .tup vs => putAll sc xs vs s K
      | _ => False
    | .none => False
  | _ => False
noncomputable def loopLit (B : Bun) (exs : St → KF → Prop) (sc : Sc) (t : Expr) (ok : List SO → Prop) : List SV → St → KF → Prop
  | [], s, K => K .next s
  | v :: r, s, K => targetW sc t v s fun s₁ => exs s₁ fun f s₂ => match f with
    | .next => ok s₂.led ∧ loopLit B exs sc t ok r s₂ K
    | .cont => ok s₂.led ∧ loopLit B exs sc t ok r s₂ K
    | .brk => K .next s₂
    | .ret u => K (.ret u) s₂
noncomputable def loopInv {β : Type} (q : (β → Prop) → Prop) (emb : β → SV) (same : List SO → Prop) (exs : St → KF → Prop) (sc : Sc) (t : Expr) (xs : List β) (s : St)
    (α : Type) (S : St → α → St) (P : St → List β → α → Prop) (K : KF) : Prop :=
  (∃ a, P s [] a ∧ St.le (S s a) s) ∧ (∀ a, same (S s a).led) ∧
    (∀ done, q fun b => ∀ rest a, xs = done ++ b :: rest → P s done a → targetW sc t (emb b) (S s a) fun s₁ => exs s₁ fun f s₂ => match f with
      | .next => ∃ a', P s (done ++ [b]) a' ∧ St.le (S s a') s₂
      | .cont => ∃ a', P s (done ++ [b]) a' ∧ St.le (S s a') s₂
      | .brk => K .next s₂
      | .ret u => K (.ret u) s₂) ∧
    (∀ a, P s xs a → K .next (S s a))
noncomputable def forOver (C : Cfg) (ln : Nat) (B : Bun) (exs : St → KF → Prop) (sc : Sc) (t : Expr) (it : SV) (s : St) (K : KF) : Prop := match it with
  | .tup vs => loopLit B exs sc t (fun _ => True) vs s K
  | .rng n => match invAt C.inv ln with
    | .some (.ints α S P) => loopInv qAll SV.int (fun _ => True) exs sc t (rangeL n) s α S P K
    | _ => False
  | .own i => match itemOf s.led i with
    | .some l => match l with
      | .lit vs => loopLit B exs sc t (same i l) vs s K
      | .ints xs => match invAt C.inv ln with
        | .some (.ints α S P) => loopInv qAll SV.int (same i l) exs sc t xs s α S P K
        | _ => False
      | .oints xs => match invAt C.inv ln with
        | .some (.oints α S P) => loopInv qOpt oin (same i l) exs sc t xs s α S P K
        | _ => False
      | .frs xs => match invAt C.inv ln with
        | .some (.frs α S P) => loopInv qAll fr (same i l) exs sc t xs s α S P K
        | _ => False
      | .ofrs xs => match invAt C.inv ln with
        | .some (.ofrs α S P) => loopInv qOpt ofr (same i l) exs sc t xs s α S P K
        | _ => False
      | .rep .. => False
    | .none => False
  | _ => False
noncomputable def whileW (tst : St → (Bool → St → Prop) → Prop) (exs : St → KF → Prop) (s : St) (α : Type) (S : St → α → St) (P : St → α → Prop) (μ : α → Nat) (K : KF) : Prop :=
  (∃ a, P s a ∧ St.le (S s a) s) ∧
    ∀ a, P s a → tst (S s a) fun c s₁ => brn c (exs s₁ fun f s₂ => match f with
      | .next => ∃ a', P s a' ∧ μ a' < μ a ∧ St.le (S s a') s₂
      | .cont => ∃ a', P s a' ∧ μ a' < μ a ∧ St.le (S s a') s₂
      | .brk => K .next s₂
      | .ret u => K (.ret u) s₂) (K .next s₁)
/-- the names of a pair's assignment that the machine stores swapped -/
noncomputable def swapB (sc : Sc) (ts vs : List Expr) : Option (List Str) :=
  if !(ts.length == 2 || ts.length == 3) || vs.length != ts.length then .none
  else if vs.any fun | .Starred .. => true | _ => false then .none
  else
    let line := (ts.head?.map (·.pos.line)).getD 0
    let names := ts.filterMap fun
      | .Name id pos => if get sc id == .some .local && pos.line == line then .some id else .none
      | _ => .none
    if names.length != ts.length || names.eraseDups.length != names.length then .none
    else if vs.all (foldedForSure 8) then .none
    else if vs.all (constantsAlone 8) then .none
    else .some names
noncomputable def assignW (B : Bun) (sc : Sc) (t : Expr) (v : Expr) (s : St) (K : KF) : Prop := match t with
  | .Name x _ => B.ev sc v s fun u s' => storeW sc x u s' fun s'' => K .next s''
  | .Attribute o name _ => match isComp v with
    | true => False
    | false => B.ev sc v s fun u s₁ => B.ev sc o s₁ fun ov s₂ => match attrPut s₂.led ov name u with
      | .some led => K .next { s₂ with led := led }
      | .none => False
  | .Subscript o i _ => match isComp v with
    | true => False
    | false => B.ev sc v s fun u s₁ => B.ev sc o s₁ fun ov s₂ => B.ev sc i s₂ fun iv s₃ => match iv with
      | .int k => match ov with
        | .own j => match itemOf s₃.led j with
          | .some l => setLit l k u fun l' => K .next { s₃ with led := setN s₃.led j (.list l') }
          | .none => False
        | _ => False
      | _ => False
  | .Tuple ts _ _ => match v with
    | .Tuple vs _ _ => match swapB sc ts vs with
      | .some xs => match noStar vs with
        | true => B.ev sc v s fun u s' => match u with
          | .tup us => putAll sc xs.reverse us.reverse s' fun s'' => K .next s''
          | _ => False
        | false => False
      | .none => False
    | _ => False
  | _ => False
noncomputable def exW (C : Cfg) (B : Bun) (sc : Sc) (st : Stmt) (s : St) (K : KF) : Prop := match st with
  | .Expr e _ => match isComp e with
    | true => False
    | false => B.ev sc e s fun _ s' => K .next s'
  | .Pass _ => K .next s
  | .Return v _ => match v with
    | .some e => B.ev sc e s fun u s' => K (.ret u) s'
    | .none => K (.ret .none) s
  | .Assign ts v _ => match ts with
    | [] => False
    | t :: r => match r with
      | [] => assignW B sc t v s K
      | _ :: _ => False
  | .AugAssign t op v _ => match t with
    | .Name x _ => match get s.loc x with
      | .some a => B.ev sc v s fun b s' => match a with
        | .int i => match b with
          | .int j => match op with
            | .Add => storeW sc x (.int (i + j)) s' fun s'' => K .next s''
            | _ => False
          | _ => False
        | _ => False
      | .none => False
    | .Subscript o i _ => match isSlice i with
      | true => False
      | false => B.ev sc o s fun ov s₁ => B.ev sc i s₁ fun iv s₂ => match ov with
      | .own j => match iv with
        | .int k => match itemOf s₂.led j with
          | .some l => itemAt l k fun old => B.ev sc v s₂ fun b s₃ => match old with
            | .int i => match b with
              | .int n => match op with
                | .Add => match itemOf s₃.led j with
                  | .some l' => setLit l' k (.int (i + n)) fun l'' => K .next { s₃ with led := setN s₃.led j (.list l'') }
                  | .none => False
                | _ => False
              | _ => False
            | _ => False
          | .none => False
        | _ => False
      | _ => False
    | _ => False
  | .If t a b _ => B.tst sc t s fun c s' => brn c (exsW C B sc a s' K) (exsW C B sc b s' K)
  | .While t body orelse pos => match orelse with
    | [] => match invAt C.inv pos.line with
      | .some (.wh α S P μ) => whileW (fun s K => B.tst sc t s K) (fun s K => exsW C B sc body s K) s α S P μ K
      | _ => False
    | _ :: _ => False
  | .For t it body orelse pos => match orelse with
    | [] => match isSetE it with
      | true => False
      | false => B.ev sc it s fun v s' => forOver C pos.line B (fun s K => exsW C B sc body s K) sc t v s' K
    | _ :: _ => False
  | _ => False
noncomputable def bun0 : Bun := ⟨fun _ _ _ _ => False, fun _ _ _ _ => False, fun _ _ _ _ => False⟩
noncomputable def bun (C : Cfg) : Nat → Bun
  | 0 => bun0
  | n + 1 => ⟨evW C (bun C n), tstW (bun C n), exW C (bun C n)⟩
noncomputable def bodyW (C : Cfg) (sc : Sc) (body : List Stmt) (s : St) (K : KF) : Prop := exsW C (bun C 30) sc body s K
open PySem.Challenge in
noncomputable def stAt : List Stmt → Nat → Stmt
  | [], _ => .Pass ⟨0, 0, 0, 0⟩
  | x :: _, 0 => x
  | _ :: r, n + 1 => stAt r n
noncomputable def stIn : Stmt → Nat → Stmt
  | .ClassDef _ _ _ b _ _ _ _ _ _ _, n => stAt b n
  | s, _ => s
noncomputable def fnBody : Stmt → List Stmt
  | .FunctionDef _ _ body _ _ _ _ _ _ _ => body
  | _ => []
noncomputable def fnSc : Stmt → Sc
  | .FunctionDef _ _ _ _ _ _ sc _ _ _ => sc.names
  | _ => []
noncomputable def fnAt (k : Nat) : Stmt := stAt PySem.Challenge.pw_pq1322_01.main.body k
noncomputable def gp (x : String) (v : SV) : Str × SV := (Str.ofString x, v)
noncomputable def glob : List (Str × SV) := [gp "get_attr" (.glo 28), gp "dim_of" (.glo 35), gp "class_attr" (.glo 42), gp "language_class" (.glo 49), gp "shape_class" (.glo 56), gp "plain_class" (.glo 63), gp "class_of" (.glo 70), gp "NAN" (.tup [.int 0, .int 0]), gp "ZERO" (.tup [.int 0, .int 1]),
  gp "gcd" (.glo 111), gp "make" (.glo 118), gp "from_int" (.glo 125), gp "is_na" (.glo 132), gp "is_nan" (.glo 139), gp "is_finite" (.glo 146), gp "marked" (.glo 153), gp "neg" (.glo 160), gp "add" (.glo 167), gp "sub" (.glo 174), gp "mul" (.glo 181), gp "div" (.glo 188), gp "floor" (.glo 195), gp "Vector" (.glo 220), gp "double" (.glo 231), gp "character" (.glo 238), gp "length" (.glo 245), gp "is_function" (.glo 252), gp "double_sum" (.glo 259), gp "number_items" (.glo 264), gp "mean_items" (.glo 271), gp "mean_of" (.glo 278), gp "ascending" (.glo 285), gp "lacking_item" (.glo 292), gp "quantile_item" (.glo 299), gp "quantile7" (.glo 304), gp "tabulate" (.glo 311), gp "with_names" (.glo 318), gp "kept_numbers" (.glo 323), gp "summary_numbers" (.glo 330), gp "summary_truths" (.glo 337), gp "summary_factor" (.glo 344), gp "mode_of" (.glo 351), gp "b_summary" (.glo 358), gp "_law_take" (.glo 365), gp "_law_low" (.glo 372), gp "_law_numbers" (.glo 379), gp "_law_truths" (.glo 386),
  gp "len" (.prim (.builtin "len")), gp "abs" (.prim (.builtin "abs")), gp "isinstance" (.prim (.builtin "isinstance")), gp "sum" (.prim (.builtin "sum")), gp "sorted" (.prim (.builtin "sorted")), gp "str" (.prim (.type "str")), gp "list" (.prim (.type "list")), gp "range" (.prim (.type "range"))]
noncomputable def runW (C : Cfg) (k : Nat) (loc : List (Str × SV)) (led : List SO) (K : SV → List SO → Prop) : Prop :=
  bodyW C (fnSc (fnAt k)) (fnBody (fnAt k)) ⟨loc, led⟩ fun f s => match f with
    | .ret v => K v s.led
    | .next => K .none s.led
    | _ => False
noncomputable def fnOb (st : Stmt) (q : Str) (dV kV doc pm : Value) (an : Option Addr) (cd ct : Value) (b : Addr) : Obj := match st with
  | .FunctionDef n a body _ _ _ sc _ _ _ => ⟨.type "function", none, .func ⟨n, q, a, .stmts body, sc, 3, [], dV, kV, doc, pm, an, cd, ct, b⟩, #[]⟩
  | _ => default
open PySem.Challenge in
noncomputable def heapK : Params → Frag := fun P =>
  (nat_lit 2, ⟨.none, none, (Data.dict #[DictEntry.mk (PyData.keyHash P (Str.ofString "type.__subclasses__.Exception.0")) (.str (Str.ofString "type.__subclasses__.Exception.0") 270) (.int 80 0), DictEntry.mk (PyData.keyHash P (Str.ofString "type.__subclasses__.Exception.n")) (.str (Str.ofString "type.__subclasses__.Exception.n") 271) (.int 1 0)] 2), #[]⟩) ::
  (nat_lit 3, ⟨(.type "dict"), none, (Data.dict #[DictEntry.mk (PyData.keyHash P (Str.ofString "__name__")) (.str (Str.ofString "__name__") 165) (.str (Str.ofString "law_pq1322_01") 630), DictEntry.mk (PyData.keyHash P (Str.ofString "__doc__")) (.str (Str.ofString "__doc__") 166) .none, DictEntry.mk (PyData.keyHash P (Str.ofString "__package__")) (.str (Str.ofString "__package__") 167) .none, DictEntry.mk (PyData.keyHash P (Str.ofString "__loader__")) (.str (Str.ofString "__loader__") 168) (.builtin "__main__.__loader__#opaque"), DictEntry.mk (PyData.keyHash P (Str.ofString "__spec__")) (.str (Str.ofString "__spec__") 169) .none, DictEntry.mk (PyData.keyHash P (Str.ofString "__annotations__")) (.str (Str.ofString "__annotations__") 170) (.ref 6), DictEntry.mk (PyData.keyHash P (Str.ofString "__builtins__")) (.str (Str.ofString "__builtins__") 171) (.ref 4), DictEntry.mk (PyData.keyHash P (Str.ofString "__file__")) (.str (Str.ofString "__file__") 173) (.str (Str.ofString "/claim/cut.py") 172), DictEntry.mk (PyData.keyHash P (Str.ofString "__cached__")) (.str (Str.ofString "__cached__") 174) .none, DictEntry.mk (PyData.keyHash P (Str.ofString "_wall")) (.str (Str.ofString "_wall") 193) (.ref 21), DictEntry.mk (PyData.keyHash P (Str.ofString "get_attr")) (.str (Str.ofString "get_attr") 203) (.ref 28), DictEntry.mk (PyData.keyHash P (Str.ofString "dim_of")) (.str (Str.ofString "dim_of") 211) (.ref 35), DictEntry.mk (PyData.keyHash P (Str.ofString "class_attr")) (.str (Str.ofString "class_attr") 219) (.ref 42), DictEntry.mk (PyData.keyHash P (Str.ofString "language_class")) (.str (Str.ofString "language_class") 227) (.ref 49), DictEntry.mk (PyData.keyHash P (Str.ofString "shape_class")) (.str (Str.ofString "shape_class") 235) (.ref 56), DictEntry.mk (PyData.keyHash P (Str.ofString "plain_class")) (.str (Str.ofString "plain_class") 243) (.ref 63), DictEntry.mk (PyData.keyHash P (Str.ofString "class_of")) (.str (Str.ofString "class_of") 251) (.ref 70), DictEntry.mk (PyData.keyHash P (Str.ofString "CoveError")) (.str (Str.ofString "CoveError") 273) (.ref 80), DictEntry.mk (PyData.keyHash P (Str.ofString "Refusal")) (.str (Str.ofString "Refusal") 298) (.ref 100), DictEntry.mk (PyData.keyHash P (Str.ofString "NAN")) (.str (Str.ofString "NAN") 303) (.ref 103), DictEntry.mk (PyData.keyHash P (Str.ofString "ZERO")) (.str (Str.ofString "ZERO") 306) (.ref 104), DictEntry.mk (PyData.keyHash P (Str.ofString "gcd")) (.str (Str.ofString "gcd") 314) (.ref 111), DictEntry.mk (PyData.keyHash P (Str.ofString "make")) (.str (Str.ofString "make") 323) (.ref 118), DictEntry.mk (PyData.keyHash P (Str.ofString "from_int")) (.str (Str.ofString "from_int") 330) (.ref 125), DictEntry.mk (PyData.keyHash P (Str.ofString "is_na")) (.str (Str.ofString "is_na") 337) (.ref 132), DictEntry.mk (PyData.keyHash P (Str.ofString "is_nan")) (.str (Str.ofString "is_nan") 344) (.ref 139), DictEntry.mk (PyData.keyHash P (Str.ofString "is_finite")) (.str (Str.ofString "is_finite") 351) (.ref 146), DictEntry.mk (PyData.keyHash P (Str.ofString "marked")) (.str (Str.ofString "marked") 359) (.ref 153), DictEntry.mk (PyData.keyHash P (Str.ofString "neg")) (.str (Str.ofString "neg") 366) (.ref 160), DictEntry.mk (PyData.keyHash P (Str.ofString "add")) (.str (Str.ofString "add") 374) (.ref 167), DictEntry.mk (PyData.keyHash P (Str.ofString "sub")) (.str (Str.ofString "sub") 382) (.ref 174), DictEntry.mk (PyData.keyHash P (Str.ofString "mul")) (.str (Str.ofString "mul") 390) (.ref 181), DictEntry.mk (PyData.keyHash P (Str.ofString "div")) (.str (Str.ofString "div") 398) (.ref 188), DictEntry.mk (PyData.keyHash P (Str.ofString "floor")) (.str (Str.ofString "floor") 405) (.ref 195), DictEntry.mk (PyData.keyHash P (Str.ofString "Vector")) (.str (Str.ofString "Vector") 449) (.ref 220), DictEntry.mk (PyData.keyHash P (Str.ofString "double")) (.str (Str.ofString "double") 456) (.ref 231), DictEntry.mk (PyData.keyHash P (Str.ofString "character")) (.str (Str.ofString "character") 463) (.ref 238), DictEntry.mk (PyData.keyHash P (Str.ofString "length")) (.str (Str.ofString "length") 471) (.ref 245), DictEntry.mk (PyData.keyHash P (Str.ofString "is_function")) (.str (Str.ofString "is_function") 478) (.ref 252), DictEntry.mk (PyData.keyHash P (Str.ofString "double_sum")) (.str (Str.ofString "double_sum") 489) (.ref 259), DictEntry.mk (PyData.keyHash P (Str.ofString "number_items")) (.str (Str.ofString "number_items") 495) (.ref 264), DictEntry.mk (PyData.keyHash P (Str.ofString "mean_items")) (.str (Str.ofString "mean_items") 502) (.ref 271), DictEntry.mk (PyData.keyHash P (Str.ofString "mean_of")) (.str (Str.ofString "mean_of") 509) (.ref 278), DictEntry.mk (PyData.keyHash P (Str.ofString "ascending")) (.str (Str.ofString "ascending") 519) (.ref 285), DictEntry.mk (PyData.keyHash P (Str.ofString "lacking_item")) (.str (Str.ofString "lacking_item") 527) (.ref 292), DictEntry.mk (PyData.keyHash P (Str.ofString "quantile_item")) (.str (Str.ofString "quantile_item") 538) (.ref 299), DictEntry.mk (PyData.keyHash P (Str.ofString "quantile7")) (.str (Str.ofString "quantile7") 544) (.ref 304), DictEntry.mk (PyData.keyHash P (Str.ofString "tabulate")) (.str (Str.ofString "tabulate") 555) (.ref 311), DictEntry.mk (PyData.keyHash P (Str.ofString "with_names")) (.str (Str.ofString "with_names") 565) (.ref 318), DictEntry.mk (PyData.keyHash P (Str.ofString "kept_numbers")) (.str (Str.ofString "kept_numbers") 571) (.ref 323), DictEntry.mk (PyData.keyHash P (Str.ofString "summary_numbers")) (.str (Str.ofString "summary_numbers") 584) (.ref 330), DictEntry.mk (PyData.keyHash P (Str.ofString "summary_truths")) (.str (Str.ofString "summary_truths") 597) (.ref 337), DictEntry.mk (PyData.keyHash P (Str.ofString "summary_factor")) (.str (Str.ofString "summary_factor") 608) (.ref 344), DictEntry.mk (PyData.keyHash P (Str.ofString "mode_of")) (.str (Str.ofString "mode_of") 616) (.ref 351), DictEntry.mk (PyData.keyHash P (Str.ofString "b_summary")) (.str (Str.ofString "b_summary") 629) (.ref 358), DictEntry.mk (PyData.keyHash P (Str.ofString "_law_take")) (.str (Str.ofString "_law_take") 640) (.ref 365), DictEntry.mk (PyData.keyHash P (Str.ofString "_law_low")) (.str (Str.ofString "_law_low") 650) (.ref 372), DictEntry.mk (PyData.keyHash P (Str.ofString "_law_numbers")) (.str (Str.ofString "_law_numbers") 668) (.ref 379), DictEntry.mk (PyData.keyHash P (Str.ofString "_law_truths")) (.str (Str.ofString "_law_truths") 679) (.ref 386), DictEntry.mk (PyData.keyHash P (Str.ofString "law")) (.str (Str.ofString "law") 685) (.ref 391)] 60), #[]⟩) ::
  (nat_lit 15, ⟨(.type "tuple"), none, (Data.seq #[]), #[]⟩) ::
  (nat_lit 17, ⟨(.type "tuple"), none, (Data.seq #[.str (Str.ofString "k") 190]), #[]⟩) ::
  (nat_lit 18, ⟨(.type "tuple"), none, (Data.seq #[]), #[]⟩) ::
  (nat_lit 20, ⟨(.type "code"), none, (Data.fields #[.str (Str.ofString "_wall") 187, .str (Str.ofString "_wall") 188, .str (Str.ofString "/claim/cut.py") 189, .int 1 0, .int 1 0, .int 0 0, .int 0 0, .int 3 0, .ref 15, .bool true, .int 181 0, .ref 16, .none, .ref 17, .ref 18, .ref 19, .int 191 0, .int 1 0, .str (Str.ofString "/claim/cut.py") 192]), #[]⟩) ::
  (nat_lit 21, fnOb (stAt pw_pq1322_01.main.body 0) (Str.ofString "_wall") .none .none .none (.str (Str.ofString "__main__") 164) none (.ref 20) .none 0) ::
  (nat_lit 22, ⟨(.type "tuple"), none, (Data.seq #[]), #[]⟩) ::
  (nat_lit 24, ⟨(.type "tuple"), none, (Data.seq #[.str (Str.ofString "v") 199, .str (Str.ofString "name") 200]), #[]⟩) ::
  (nat_lit 25, ⟨(.type "tuple"), none, (Data.seq #[]), #[]⟩) ::
  (nat_lit 27, ⟨(.type "code"), none, (Data.fields #[.str (Str.ofString "get_attr") 196, .str (Str.ofString "get_attr") 197, .str (Str.ofString "/claim/cut.py") 198, .int 5 0, .int 2 0, .int 0 0, .int 0 0, .int 3 0, .ref 22, .bool true, .int 181 0, .ref 23, .none, .ref 24, .ref 25, .ref 26, .int 201 0, .int 5 0, .str (Str.ofString "/claim/cut.py") 202]), #[]⟩) ::
  (nat_lit 28, fnOb (stAt pw_pq1322_01.main.body 2) (Str.ofString "get_attr") .none .none .none (.str (Str.ofString "vectorcove.attrs") 194) none (.ref 27) .none 0) ::
  (nat_lit 29, ⟨(.type "tuple"), none, (Data.seq #[]), #[]⟩) ::
  (nat_lit 31, ⟨(.type "tuple"), none, (Data.seq #[.str (Str.ofString "v") 207, .str (Str.ofString "dims") 208]), #[]⟩) ::
  (nat_lit 32, ⟨(.type "tuple"), none, (Data.seq #[]), #[]⟩) ::
  (nat_lit 34, ⟨(.type "code"), none, (Data.fields #[.str (Str.ofString "dim_of") 204, .str (Str.ofString "dim_of") 205, .str (Str.ofString "/claim/cut.py") 206, .int 9 0, .int 1 0, .int 0 0, .int 0 0, .int 3 0, .ref 29, .bool true, .int 181 0, .ref 30, .none, .ref 31, .ref 32, .ref 33, .int 209 0, .int 9 0, .str (Str.ofString "/claim/cut.py") 210]), #[]⟩) ::
  (nat_lit 35, fnOb (stAt pw_pq1322_01.main.body 3) (Str.ofString "dim_of") .none .none .none (.str (Str.ofString "vectorcove.attrs") 194) none (.ref 34) .none 0) ::
  (nat_lit 36, ⟨(.type "tuple"), none, (Data.seq #[]), #[]⟩) ::
  (nat_lit 38, ⟨(.type "tuple"), none, (Data.seq #[.str (Str.ofString "v") 215, .str (Str.ofString "found") 216]), #[]⟩) ::
  (nat_lit 39, ⟨(.type "tuple"), none, (Data.seq #[]), #[]⟩) ::
  (nat_lit 41, ⟨(.type "code"), none, (Data.fields #[.str (Str.ofString "class_attr") 212, .str (Str.ofString "class_attr") 213, .str (Str.ofString "/claim/cut.py") 214, .int 14 0, .int 1 0, .int 0 0, .int 0 0, .int 3 0, .ref 36, .bool true, .int 181 0, .ref 37, .none, .ref 38, .ref 39, .ref 40, .int 217 0, .int 14 0, .str (Str.ofString "/claim/cut.py") 218]), #[]⟩) ::
  (nat_lit 42, fnOb (stAt pw_pq1322_01.main.body 4) (Str.ofString "class_attr") .none .none .none (.str (Str.ofString "vectorcove.attrs") 194) none (.ref 41) .none 0) ::
  (nat_lit 43, ⟨(.type "tuple"), none, (Data.seq #[]), #[]⟩) ::
  (nat_lit 45, ⟨(.type "tuple"), none, (Data.seq #[.str (Str.ofString "v") 223, .str (Str.ofString "head") 224]), #[]⟩) ::
  (nat_lit 46, ⟨(.type "tuple"), none, (Data.seq #[]), #[]⟩) ::
  (nat_lit 48, ⟨(.type "code"), none, (Data.fields #[.str (Str.ofString "language_class") 220, .str (Str.ofString "language_class") 221, .str (Str.ofString "/claim/cut.py") 222, .int 19 0, .int 1 0, .int 0 0, .int 0 0, .int 3 0, .ref 43, .bool true, .int 181 0, .ref 44, .none, .ref 45, .ref 46, .ref 47, .int 225 0, .int 19 0, .str (Str.ofString "/claim/cut.py") 226]), #[]⟩) ::
  (nat_lit 49, fnOb (stAt pw_pq1322_01.main.body 5) (Str.ofString "language_class") .none .none .none (.str (Str.ofString "vectorcove.attrs") 194) none (.ref 48) .none 0) ::
  (nat_lit 50, ⟨(.type "tuple"), none, (Data.seq #[]), #[]⟩) ::
  (nat_lit 52, ⟨(.type "tuple"), none, (Data.seq #[.str (Str.ofString "v") 231, .str (Str.ofString "dims") 232]), #[]⟩) ::
  (nat_lit 53, ⟨(.type "tuple"), none, (Data.seq #[]), #[]⟩) ::
  (nat_lit 55, ⟨(.type "code"), none, (Data.fields #[.str (Str.ofString "shape_class") 228, .str (Str.ofString "shape_class") 229, .str (Str.ofString "/claim/cut.py") 230, .int 24 0, .int 1 0, .int 0 0, .int 0 0, .int 3 0, .ref 50, .bool true, .int 181 0, .ref 51, .none, .ref 52, .ref 53, .ref 54, .int 233 0, .int 24 0, .str (Str.ofString "/claim/cut.py") 234]), #[]⟩) ::
  (nat_lit 56, fnOb (stAt pw_pq1322_01.main.body 6) (Str.ofString "shape_class") .none .none .none (.str (Str.ofString "vectorcove.attrs") 194) none (.ref 55) .none 0) ::
  (nat_lit 57, ⟨(.type "tuple"), none, (Data.seq #[]), #[]⟩) ::
  (nat_lit 59, ⟨(.type "tuple"), none, (Data.seq #[.str (Str.ofString "v") 239, .str (Str.ofString "kind") 240]), #[]⟩) ::
  (nat_lit 60, ⟨(.type "tuple"), none, (Data.seq #[]), #[]⟩) ::
  (nat_lit 62, ⟨(.type "code"), none, (Data.fields #[.str (Str.ofString "plain_class") 236, .str (Str.ofString "plain_class") 237, .str (Str.ofString "/claim/cut.py") 238, .int 29 0, .int 1 0, .int 0 0, .int 0 0, .int 3 0, .ref 57, .bool true, .int 181 0, .ref 58, .none, .ref 59, .ref 60, .ref 61, .int 241 0, .int 29 0, .str (Str.ofString "/claim/cut.py") 242]), #[]⟩) ::
  (nat_lit 63, fnOb (stAt pw_pq1322_01.main.body 7) (Str.ofString "plain_class") .none .none .none (.str (Str.ofString "vectorcove.attrs") 194) none (.ref 62) .none 0) ::
  (nat_lit 64, ⟨(.type "tuple"), none, (Data.seq #[]), #[]⟩) ::
  (nat_lit 66, ⟨(.type "tuple"), none, (Data.seq #[.str (Str.ofString "v") 247, .str (Str.ofString "rows") 248]), #[]⟩) ::
  (nat_lit 67, ⟨(.type "tuple"), none, (Data.seq #[]), #[]⟩) ::
  (nat_lit 69, ⟨(.type "code"), none, (Data.fields #[.str (Str.ofString "class_of") 244, .str (Str.ofString "class_of") 245, .str (Str.ofString "/claim/cut.py") 246, .int 40 0, .int 1 0, .int 0 0, .int 0 0, .int 3 0, .ref 64, .bool true, .int 181 0, .ref 65, .none, .ref 66, .ref 67, .ref 68, .int 249 0, .int 40 0, .str (Str.ofString "/claim/cut.py") 250]), #[]⟩) ::
  (nat_lit 70, fnOb (stAt pw_pq1322_01.main.body 8) (Str.ofString "class_of") .none .none .none (.str (Str.ofString "vectorcove.attrs") 194) none (.ref 69) .none 0) ::
  (nat_lit 71, ⟨(.type "tuple"), none, (Data.seq #[.type "Exception"]), #[]⟩) ::
  (nat_lit 78, ⟨(.type "tuple"), none, (Data.seq #[]), #[]⟩) ::
  (nat_lit 79, ⟨(.type "dict"), none, (Data.dict #[DictEntry.mk (PyData.keyHash P (Str.ofString "__module__")) (.str (Str.ofString "__module__") 261) (.str (Str.ofString "vectorcove.errors") 252), DictEntry.mk (PyData.keyHash P (Str.ofString "__firstlineno__")) (.str (Str.ofString "__firstlineno__") 265) (.int 49 264), DictEntry.mk (PyData.keyHash P (Str.ofString "__static_attributes__")) (.str (Str.ofString "__static_attributes__") 266) (.ref 78), DictEntry.mk (PyData.keyHash P (Str.ofString "__weakref__")) (.str (Str.ofString "__weakref__") 268) (.ref 81), DictEntry.mk (PyData.keyHash P (Str.ofString "__doc__")) (.str (Str.ofString "__doc__") 269) .none] 3), #[]⟩) ::
  (nat_lit 80, ⟨(.type "type"), none, (Data.cls (ClassData.mk (Str.ofString "CoveError") [.type "Exception"] [.ref 80, .type "Exception", .type "BaseException", .type "object"] 79 (Str.ofString "CoveError") true [] [.ref 100] false none false)), #[some (.ref 71), none, some (.str (Str.ofString "CoveError") 254), some (.str (Str.ofString "CoveError") 262), some (.builtin "Exception.__new__"), some (.bool true)]⟩) ::
  (nat_lit 81, ⟨(.type "getset_descriptor"), none, (Data.fields #[.str (Str.ofString "__weakref__") 267, .ref 80, .builtin "ExceptionGroup.__weakref__", .none]), #[]⟩) ::
  (nat_lit 84, ⟨(.type "tuple"), none, (Data.seq #[.ref 80]), #[]⟩) ::
  (nat_lit 91, ⟨(.type "tuple"), none, (Data.seq #[]), #[]⟩) ::
  (nat_lit 93, ⟨(.type "tuple"), none, (Data.seq #[.str (Str.ofString "self") 289, .str (Str.ofString "message") 290]), #[]⟩) ::
  (nat_lit 94, ⟨(.type "tuple"), none, (Data.seq #[]), #[]⟩) ::
  (nat_lit 96, ⟨(.type "code"), none, (Data.fields #[.str (Str.ofString "__init__") 286, .str (Str.ofString "Refusal.__init__") 287, .str (Str.ofString "/claim/cut.py") 288, .int 53 0, .int 2 0, .int 0 0, .int 0 0, .int 3 0, .ref 91, .bool true, .int 181 0, .ref 92, .none, .ref 93, .ref 94, .ref 95, .int 291 0, .int 53 0, .str (Str.ofString "/claim/cut.py") 292]), #[]⟩) ::
  (nat_lit 97, fnOb (stIn (stAt pw_pq1322_01.main.body 11) 0) (Str.ofString "Refusal.__init__") .none .none .none (.str (Str.ofString "vectorcove.errors") 252) none (.ref 96) .none 0) ::
  (nat_lit 98, ⟨(.type "tuple"), none, (Data.seq #[.str (Str.ofString "message") 294]), #[]⟩) ::
  (nat_lit 99, ⟨(.type "dict"), none, (Data.dict #[DictEntry.mk (PyData.keyHash P (Str.ofString "__module__")) (.str (Str.ofString "__module__") 281) (.str (Str.ofString "vectorcove.errors") 252), DictEntry.mk (PyData.keyHash P (Str.ofString "__firstlineno__")) (.str (Str.ofString "__firstlineno__") 285) (.int 51 284), DictEntry.mk (PyData.keyHash P (Str.ofString "__init__")) (.str (Str.ofString "__init__") 293) (.ref 97), DictEntry.mk (PyData.keyHash P (Str.ofString "__static_attributes__")) (.str (Str.ofString "__static_attributes__") 295) (.ref 98), DictEntry.mk (PyData.keyHash P (Str.ofString "__doc__")) (.str (Str.ofString "__doc__") 296) .none] 2), #[]⟩) ::
  (nat_lit 100, ⟨(.type "type"), none, (Data.cls (ClassData.mk (Str.ofString "Refusal") [.ref 80] [.ref 100, .ref 80, .type "Exception", .type "BaseException", .type "object"] 99 (Str.ofString "Refusal") true [] [] false none false)), #[some (.ref 84), none, some (.str (Str.ofString "Refusal") 274), some (.str (Str.ofString "Refusal") 282), some (.builtin "Exception.__new__"), some (.bool true)]⟩) ::
  (nat_lit 103, ⟨(.type "tuple"), none, (Data.seq #[.int 0 301, .int 0 302]), #[]⟩) ::
  (nat_lit 104, ⟨(.type "tuple"), none, (Data.seq #[.int 0 304, .int 1 305]), #[]⟩) ::
  (nat_lit 105, ⟨(.type "tuple"), none, (Data.seq #[]), #[]⟩) ::
  (nat_lit 107, ⟨(.type "tuple"), none, (Data.seq #[.str (Str.ofString "a") 310, .str (Str.ofString "b") 311]), #[]⟩) ::
  (nat_lit 108, ⟨(.type "tuple"), none, (Data.seq #[]), #[]⟩) ::
  (nat_lit 110, ⟨(.type "code"), none, (Data.fields #[.str (Str.ofString "gcd") 307, .str (Str.ofString "gcd") 308, .str (Str.ofString "/claim/cut.py") 309, .int 58 0, .int 2 0, .int 0 0, .int 0 0, .int 3 0, .ref 105, .bool true, .int 181 0, .ref 106, .none, .ref 107, .ref 108, .ref 109, .int 312 0, .int 58 0, .str (Str.ofString "/claim/cut.py") 313]), #[]⟩) ::
  (nat_lit 111, fnOb (stAt pw_pq1322_01.main.body 15) (Str.ofString "gcd") .none .none .none (.str (Str.ofString "vectorcove.rational") 299) none (.ref 110) .none 0) ::
  (nat_lit 112, ⟨(.type "tuple"), none, (Data.seq #[]), #[]⟩) ::
  (nat_lit 114, ⟨(.type "tuple"), none, (Data.seq #[.str (Str.ofString "n") 318, .str (Str.ofString "d") 319, .str (Str.ofString "common") 320]), #[]⟩) ::
  (nat_lit 115, ⟨(.type "tuple"), none, (Data.seq #[]), #[]⟩) ::
  (nat_lit 117, ⟨(.type "code"), none, (Data.fields #[.str (Str.ofString "make") 315, .str (Str.ofString "make") 316, .str (Str.ofString "/claim/cut.py") 317, .int 62 0, .int 2 0, .int 0 0, .int 0 0, .int 3 0, .ref 112, .bool true, .int 181 0, .ref 113, .none, .ref 114, .ref 115, .ref 116, .int 321 0, .int 62 0, .str (Str.ofString "/claim/cut.py") 322]), #[]⟩) ::
  (nat_lit 118, fnOb (stAt pw_pq1322_01.main.body 16) (Str.ofString "make") .none .none .none (.str (Str.ofString "vectorcove.rational") 299) none (.ref 117) .none 0) ::
  (nat_lit 119, ⟨(.type "tuple"), none, (Data.seq #[]), #[]⟩) ::
  (nat_lit 121, ⟨(.type "tuple"), none, (Data.seq #[.str (Str.ofString "n") 327]), #[]⟩) ::
  (nat_lit 122, ⟨(.type "tuple"), none, (Data.seq #[]), #[]⟩) ::
  (nat_lit 124, ⟨(.type "code"), none, (Data.fields #[.str (Str.ofString "from_int") 324, .str (Str.ofString "from_int") 325, .str (Str.ofString "/claim/cut.py") 326, .int 72 0, .int 1 0, .int 0 0, .int 0 0, .int 3 0, .ref 119, .bool true, .int 181 0, .ref 120, .none, .ref 121, .ref 122, .ref 123, .int 328 0, .int 72 0, .str (Str.ofString "/claim/cut.py") 329]), #[]⟩) ::
  (nat_lit 125, fnOb (stAt pw_pq1322_01.main.body 17) (Str.ofString "from_int") .none .none .none (.str (Str.ofString "vectorcove.rational") 299) none (.ref 124) .none 0) ::
  (nat_lit 126, ⟨(.type "tuple"), none, (Data.seq #[]), #[]⟩) ::
  (nat_lit 128, ⟨(.type "tuple"), none, (Data.seq #[.str (Str.ofString "x") 334]), #[]⟩) ::
  (nat_lit 129, ⟨(.type "tuple"), none, (Data.seq #[]), #[]⟩) ::
  (nat_lit 131, ⟨(.type "code"), none, (Data.fields #[.str (Str.ofString "is_na") 331, .str (Str.ofString "is_na") 332, .str (Str.ofString "/claim/cut.py") 333, .int 76 0, .int 1 0, .int 0 0, .int 0 0, .int 3 0, .ref 126, .bool true, .int 181 0, .ref 127, .none, .ref 128, .ref 129, .ref 130, .int 335 0, .int 76 0, .str (Str.ofString "/claim/cut.py") 336]), #[]⟩) ::
  (nat_lit 132, fnOb (stAt pw_pq1322_01.main.body 18) (Str.ofString "is_na") .none .none .none (.str (Str.ofString "vectorcove.rational") 299) none (.ref 131) .none 0) ::
  (nat_lit 133, ⟨(.type "tuple"), none, (Data.seq #[]), #[]⟩) ::
  (nat_lit 135, ⟨(.type "tuple"), none, (Data.seq #[.str (Str.ofString "x") 341]), #[]⟩) ::
  (nat_lit 136, ⟨(.type "tuple"), none, (Data.seq #[]), #[]⟩) ::
  (nat_lit 138, ⟨(.type "code"), none, (Data.fields #[.str (Str.ofString "is_nan") 338, .str (Str.ofString "is_nan") 339, .str (Str.ofString "/claim/cut.py") 340, .int 78 0, .int 1 0, .int 0 0, .int 0 0, .int 3 0, .ref 133, .bool true, .int 181 0, .ref 134, .none, .ref 135, .ref 136, .ref 137, .int 342 0, .int 78 0, .str (Str.ofString "/claim/cut.py") 343]), #[]⟩) ::
  (nat_lit 139, fnOb (stAt pw_pq1322_01.main.body 19) (Str.ofString "is_nan") .none .none .none (.str (Str.ofString "vectorcove.rational") 299) none (.ref 138) .none 0) ::
  (nat_lit 140, ⟨(.type "tuple"), none, (Data.seq #[]), #[]⟩) ::
  (nat_lit 142, ⟨(.type "tuple"), none, (Data.seq #[.str (Str.ofString "x") 348]), #[]⟩) ::
  (nat_lit 143, ⟨(.type "tuple"), none, (Data.seq #[]), #[]⟩) ::
  (nat_lit 145, ⟨(.type "code"), none, (Data.fields #[.str (Str.ofString "is_finite") 345, .str (Str.ofString "is_finite") 346, .str (Str.ofString "/claim/cut.py") 347, .int 80 0, .int 1 0, .int 0 0, .int 0 0, .int 3 0, .ref 140, .bool true, .int 181 0, .ref 141, .none, .ref 142, .ref 143, .ref 144, .int 349 0, .int 80 0, .str (Str.ofString "/claim/cut.py") 350]), #[]⟩) ::
  (nat_lit 146, fnOb (stAt pw_pq1322_01.main.body 20) (Str.ofString "is_finite") .none .none .none (.str (Str.ofString "vectorcove.rational") 299) none (.ref 145) .none 0) ::
  (nat_lit 147, ⟨(.type "tuple"), none, (Data.seq #[]), #[]⟩) ::
  (nat_lit 149, ⟨(.type "tuple"), none, (Data.seq #[.str (Str.ofString "x") 355, .str (Str.ofString "y") 356]), #[]⟩) ::
  (nat_lit 150, ⟨(.type "tuple"), none, (Data.seq #[]), #[]⟩) ::
  (nat_lit 152, ⟨(.type "code"), none, (Data.fields #[.str (Str.ofString "marked") 352, .str (Str.ofString "marked") 353, .str (Str.ofString "/claim/cut.py") 354, .int 82 0, .int 2 0, .int 0 0, .int 0 0, .int 3 0, .ref 147, .bool true, .int 181 0, .ref 148, .none, .ref 149, .ref 150, .ref 151, .int 357 0, .int 82 0, .str (Str.ofString "/claim/cut.py") 358]), #[]⟩) ::
  (nat_lit 153, fnOb (stAt pw_pq1322_01.main.body 21) (Str.ofString "marked") .none .none .none (.str (Str.ofString "vectorcove.rational") 299) none (.ref 152) .none 0) ::
  (nat_lit 154, ⟨(.type "tuple"), none, (Data.seq #[]), #[]⟩) ::
  (nat_lit 156, ⟨(.type "tuple"), none, (Data.seq #[.str (Str.ofString "x") 363]), #[]⟩) ::
  (nat_lit 157, ⟨(.type "tuple"), none, (Data.seq #[]), #[]⟩) ::
  (nat_lit 159, ⟨(.type "code"), none, (Data.fields #[.str (Str.ofString "neg") 360, .str (Str.ofString "neg") 361, .str (Str.ofString "/claim/cut.py") 362, .int 86 0, .int 1 0, .int 0 0, .int 0 0, .int 3 0, .ref 154, .bool true, .int 181 0, .ref 155, .none, .ref 156, .ref 157, .ref 158, .int 364 0, .int 86 0, .str (Str.ofString "/claim/cut.py") 365]), #[]⟩) ::
  (nat_lit 160, fnOb (stAt pw_pq1322_01.main.body 22) (Str.ofString "neg") .none .none .none (.str (Str.ofString "vectorcove.rational") 299) none (.ref 159) .none 0) ::
  (nat_lit 161, ⟨(.type "tuple"), none, (Data.seq #[]), #[]⟩) ::
  (nat_lit 163, ⟨(.type "tuple"), none, (Data.seq #[.str (Str.ofString "x") 370, .str (Str.ofString "y") 371]), #[]⟩) ::
  (nat_lit 164, ⟨(.type "tuple"), none, (Data.seq #[]), #[]⟩) ::
  (nat_lit 166, ⟨(.type "code"), none, (Data.fields #[.str (Str.ofString "add") 367, .str (Str.ofString "add") 368, .str (Str.ofString "/claim/cut.py") 369, .int 90 0, .int 2 0, .int 0 0, .int 0 0, .int 3 0, .ref 161, .bool true, .int 181 0, .ref 162, .none, .ref 163, .ref 164, .ref 165, .int 372 0, .int 90 0, .str (Str.ofString "/claim/cut.py") 373]), #[]⟩) ::
  (nat_lit 167, fnOb (stAt pw_pq1322_01.main.body 23) (Str.ofString "add") .none .none .none (.str (Str.ofString "vectorcove.rational") 299) none (.ref 166) .none 0) ::
  (nat_lit 168, ⟨(.type "tuple"), none, (Data.seq #[]), #[]⟩) ::
  (nat_lit 170, ⟨(.type "tuple"), none, (Data.seq #[.str (Str.ofString "x") 378, .str (Str.ofString "y") 379]), #[]⟩) ::
  (nat_lit 171, ⟨(.type "tuple"), none, (Data.seq #[]), #[]⟩) ::
  (nat_lit 173, ⟨(.type "code"), none, (Data.fields #[.str (Str.ofString "sub") 375, .str (Str.ofString "sub") 376, .str (Str.ofString "/claim/cut.py") 377, .int 100 0, .int 2 0, .int 0 0, .int 0 0, .int 3 0, .ref 168, .bool true, .int 181 0, .ref 169, .none, .ref 170, .ref 171, .ref 172, .int 380 0, .int 100 0, .str (Str.ofString "/claim/cut.py") 381]), #[]⟩) ::
  (nat_lit 174, fnOb (stAt pw_pq1322_01.main.body 24) (Str.ofString "sub") .none .none .none (.str (Str.ofString "vectorcove.rational") 299) none (.ref 173) .none 0) ::
  (nat_lit 175, ⟨(.type "tuple"), none, (Data.seq #[]), #[]⟩) ::
  (nat_lit 177, ⟨(.type "tuple"), none, (Data.seq #[.str (Str.ofString "x") 386, .str (Str.ofString "y") 387]), #[]⟩) ::
  (nat_lit 178, ⟨(.type "tuple"), none, (Data.seq #[]), #[]⟩) ::
  (nat_lit 180, ⟨(.type "code"), none, (Data.fields #[.str (Str.ofString "mul") 383, .str (Str.ofString "mul") 384, .str (Str.ofString "/claim/cut.py") 385, .int 102 0, .int 2 0, .int 0 0, .int 0 0, .int 3 0, .ref 175, .bool true, .int 181 0, .ref 176, .none, .ref 177, .ref 178, .ref 179, .int 388 0, .int 102 0, .str (Str.ofString "/claim/cut.py") 389]), #[]⟩) ::
  (nat_lit 181, fnOb (stAt pw_pq1322_01.main.body 25) (Str.ofString "mul") .none .none .none (.str (Str.ofString "vectorcove.rational") 299) none (.ref 180) .none 0) ::
  (nat_lit 182, ⟨(.type "tuple"), none, (Data.seq #[]), #[]⟩) ::
  (nat_lit 184, ⟨(.type "tuple"), none, (Data.seq #[.str (Str.ofString "x") 394, .str (Str.ofString "y") 395]), #[]⟩) ::
  (nat_lit 185, ⟨(.type "tuple"), none, (Data.seq #[]), #[]⟩) ::
  (nat_lit 187, ⟨(.type "code"), none, (Data.fields #[.str (Str.ofString "div") 391, .str (Str.ofString "div") 392, .str (Str.ofString "/claim/cut.py") 393, .int 106 0, .int 2 0, .int 0 0, .int 0 0, .int 3 0, .ref 182, .bool true, .int 181 0, .ref 183, .none, .ref 184, .ref 185, .ref 186, .int 396 0, .int 106 0, .str (Str.ofString "/claim/cut.py") 397]), #[]⟩) ::
  (nat_lit 188, fnOb (stAt pw_pq1322_01.main.body 26) (Str.ofString "div") .none .none .none (.str (Str.ofString "vectorcove.rational") 299) none (.ref 187) .none 0) ::
  (nat_lit 189, ⟨(.type "tuple"), none, (Data.seq #[]), #[]⟩) ::
  (nat_lit 191, ⟨(.type "tuple"), none, (Data.seq #[.str (Str.ofString "x") 402]), #[]⟩) ::
  (nat_lit 192, ⟨(.type "tuple"), none, (Data.seq #[]), #[]⟩) ::
  (nat_lit 194, ⟨(.type "code"), none, (Data.fields #[.str (Str.ofString "floor") 399, .str (Str.ofString "floor") 400, .str (Str.ofString "/claim/cut.py") 401, .int 114 0, .int 1 0, .int 0 0, .int 0 0, .int 3 0, .ref 189, .bool true, .int 181 0, .ref 190, .none, .ref 191, .ref 192, .ref 193, .int 403 0, .int 114 0, .str (Str.ofString "/claim/cut.py") 404]), #[]⟩) ::
  (nat_lit 195, fnOb (stAt pw_pq1322_01.main.body 27) (Str.ofString "floor") .none .none .none (.str (Str.ofString "vectorcove.rational") 299) none (.ref 194) .none 0) ::
  (nat_lit 203, ⟨(.type "tuple"), none, (Data.seq #[.none]), #[]⟩) ::
  (nat_lit 204, ⟨(.type "tuple"), none, (Data.seq #[]), #[]⟩) ::
  (nat_lit 206, ⟨(.type "tuple"), none, (Data.seq #[.str (Str.ofString "self") 423, .str (Str.ofString "kind") 424, .str (Str.ofString "items") 425, .str (Str.ofString "attrs") 426]), #[]⟩) ::
  (nat_lit 207, ⟨(.type "tuple"), none, (Data.seq #[]), #[]⟩) ::
  (nat_lit 209, ⟨(.type "code"), none, (Data.fields #[.str (Str.ofString "__init__") 420, .str (Str.ofString "Vector.__init__") 421, .str (Str.ofString "/claim/cut.py") 422, .int 121 0, .int 4 0, .int 0 0, .int 0 0, .int 3 0, .ref 204, .bool true, .int 181 0, .ref 205, .none, .ref 206, .ref 207, .ref 208, .int 427 0, .int 121 0, .str (Str.ofString "/claim/cut.py") 428]), #[]⟩) ::
  (nat_lit 210, fnOb (stIn (stAt pw_pq1322_01.main.body 29) 0) (Str.ofString "Vector.__init__") (.ref 203) .none .none (.str (Str.ofString "vectorcove.values") 406) none (.ref 209) .none 0) ::
  (nat_lit 211, ⟨(.type "tuple"), none, (Data.seq #[]), #[]⟩) ::
  (nat_lit 213, ⟨(.type "tuple"), none, (Data.seq #[.str (Str.ofString "self") 433]), #[]⟩) ::
  (nat_lit 214, ⟨(.type "tuple"), none, (Data.seq #[]), #[]⟩) ::
  (nat_lit 216, ⟨(.type "code"), none, (Data.fields #[.str (Str.ofString "copy") 430, .str (Str.ofString "Vector.copy") 431, .str (Str.ofString "/claim/cut.py") 432, .int 128 0, .int 1 0, .int 0 0, .int 0 0, .int 3 0, .ref 211, .bool true, .int 181 0, .ref 212, .none, .ref 213, .ref 214, .ref 215, .int 434 0, .int 128 0, .str (Str.ofString "/claim/cut.py") 435]), #[]⟩) ::
  (nat_lit 217, fnOb (stIn (stAt pw_pq1322_01.main.body 29) 1) (Str.ofString "Vector.copy") .none .none .none (.str (Str.ofString "vectorcove.values") 406) none (.ref 216) .none 0) ::
  (nat_lit 218, ⟨(.type "tuple"), none, (Data.seq #[.str (Str.ofString "attrs") 437, .str (Str.ofString "items") 438, .str (Str.ofString "kind") 439, .str (Str.ofString "loose") 440, .str (Str.ofString "shared") 441]), #[]⟩) ::
  (nat_lit 219, ⟨(.type "dict"), none, (Data.dict #[DictEntry.mk (PyData.keyHash P (Str.ofString "__module__")) (.str (Str.ofString "__module__") 415) (.str (Str.ofString "vectorcove.values") 406), DictEntry.mk (PyData.keyHash P (Str.ofString "__firstlineno__")) (.str (Str.ofString "__firstlineno__") 419) (.int 119 418), DictEntry.mk (PyData.keyHash P (Str.ofString "__init__")) (.str (Str.ofString "__init__") 429) (.ref 210), DictEntry.mk (PyData.keyHash P (Str.ofString "copy")) (.str (Str.ofString "copy") 436) (.ref 217), DictEntry.mk (PyData.keyHash P (Str.ofString "__static_attributes__")) (.str (Str.ofString "__static_attributes__") 442) (.ref 218), DictEntry.mk (PyData.keyHash P (Str.ofString "__dict__")) (.str (Str.ofString "__dict__") 444) (.ref 221), DictEntry.mk (PyData.keyHash P (Str.ofString "__weakref__")) (.str (Str.ofString "__weakref__") 446) (.ref 222), DictEntry.mk (PyData.keyHash P (Str.ofString "__doc__")) (.str (Str.ofString "__doc__") 447) .none] 4), #[]⟩) ::
  (nat_lit 220, ⟨(.type "type"), none, (Data.cls (ClassData.mk (Str.ofString "Vector") [.type "object"] [.ref 220, .type "object"] 219 (Str.ofString "Vector") true [] [] false none false)), #[none, none, some (.str (Str.ofString "Vector") 408), some (.str (Str.ofString "Vector") 416), some (.builtin "object.__new__"), some (.bool true)]⟩) ::
  (nat_lit 221, ⟨(.type "getset_descriptor"), none, (Data.fields #[.str (Str.ofString "__dict__") 443, .ref 220, .builtin "function.__dict__", .builtin "function.__dict__#set"]), #[]⟩) ::
  (nat_lit 222, ⟨(.type "getset_descriptor"), none, (Data.fields #[.str (Str.ofString "__weakref__") 445, .ref 220, .builtin "ExceptionGroup.__weakref__", .none]), #[]⟩) ::
  (nat_lit 225, ⟨(.type "tuple"), none, (Data.seq #[]), #[]⟩) ::
  (nat_lit 227, ⟨(.type "tuple"), none, (Data.seq #[.str (Str.ofString "items") 453]), #[]⟩) ::
  (nat_lit 228, ⟨(.type "tuple"), none, (Data.seq #[]), #[]⟩) ::
  (nat_lit 230, ⟨(.type "code"), none, (Data.fields #[.str (Str.ofString "double") 450, .str (Str.ofString "double") 451, .str (Str.ofString "/claim/cut.py") 452, .int 130 0, .int 1 0, .int 0 0, .int 0 0, .int 3 0, .ref 225, .bool true, .int 181 0, .ref 226, .none, .ref 227, .ref 228, .ref 229, .int 454 0, .int 130 0, .str (Str.ofString "/claim/cut.py") 455]), #[]⟩) ::
  (nat_lit 231, fnOb (stAt pw_pq1322_01.main.body 30) (Str.ofString "double") .none .none .none (.str (Str.ofString "vectorcove.values") 406) none (.ref 230) .none 0) ::
  (nat_lit 232, ⟨(.type "tuple"), none, (Data.seq #[]), #[]⟩) ::
  (nat_lit 234, ⟨(.type "tuple"), none, (Data.seq #[.str (Str.ofString "items") 460]), #[]⟩) ::
  (nat_lit 235, ⟨(.type "tuple"), none, (Data.seq #[]), #[]⟩) ::
  (nat_lit 237, ⟨(.type "code"), none, (Data.fields #[.str (Str.ofString "character") 457, .str (Str.ofString "character") 458, .str (Str.ofString "/claim/cut.py") 459, .int 132 0, .int 1 0, .int 0 0, .int 0 0, .int 3 0, .ref 232, .bool true, .int 181 0, .ref 233, .none, .ref 234, .ref 235, .ref 236, .int 461 0, .int 132 0, .str (Str.ofString "/claim/cut.py") 462]), #[]⟩) ::
  (nat_lit 238, fnOb (stAt pw_pq1322_01.main.body 31) (Str.ofString "character") .none .none .none (.str (Str.ofString "vectorcove.values") 406) none (.ref 237) .none 0) ::
  (nat_lit 239, ⟨(.type "tuple"), none, (Data.seq #[]), #[]⟩) ::
  (nat_lit 241, ⟨(.type "tuple"), none, (Data.seq #[.str (Str.ofString "v") 467, .str (Str.ofString "kind") 468]), #[]⟩) ::
  (nat_lit 242, ⟨(.type "tuple"), none, (Data.seq #[]), #[]⟩) ::
  (nat_lit 244, ⟨(.type "code"), none, (Data.fields #[.str (Str.ofString "length") 464, .str (Str.ofString "length") 465, .str (Str.ofString "/claim/cut.py") 466, .int 134 0, .int 1 0, .int 0 0, .int 0 0, .int 3 0, .ref 239, .bool true, .int 181 0, .ref 240, .none, .ref 241, .ref 242, .ref 243, .int 469 0, .int 134 0, .str (Str.ofString "/claim/cut.py") 470]), #[]⟩) ::
  (nat_lit 245, fnOb (stAt pw_pq1322_01.main.body 32) (Str.ofString "length") .none .none .none (.str (Str.ofString "vectorcove.values") 406) none (.ref 244) .none 0) ::
  (nat_lit 246, ⟨(.type "tuple"), none, (Data.seq #[]), #[]⟩) ::
  (nat_lit 248, ⟨(.type "tuple"), none, (Data.seq #[.str (Str.ofString "v") 475]), #[]⟩) ::
  (nat_lit 249, ⟨(.type "tuple"), none, (Data.seq #[]), #[]⟩) ::
  (nat_lit 251, ⟨(.type "code"), none, (Data.fields #[.str (Str.ofString "is_function") 472, .str (Str.ofString "is_function") 473, .str (Str.ofString "/claim/cut.py") 474, .int 145 0, .int 1 0, .int 0 0, .int 0 0, .int 3 0, .ref 246, .bool true, .int 181 0, .ref 247, .none, .ref 248, .ref 249, .ref 250, .int 476 0, .int 145 0, .str (Str.ofString "/claim/cut.py") 477]), #[]⟩) ::
  (nat_lit 252, fnOb (stAt pw_pq1322_01.main.body 33) (Str.ofString "is_function") .none .none .none (.str (Str.ofString "vectorcove.values") 406) none (.ref 251) .none 0) ::
  (nat_lit 253, ⟨(.type "tuple"), none, (Data.seq #[]), #[]⟩) ::
  (nat_lit 255, ⟨(.type "tuple"), none, (Data.seq #[.str (Str.ofString "items") 484, .str (Str.ofString "total") 485, .str (Str.ofString "item") 486]), #[]⟩) ::
  (nat_lit 256, ⟨(.type "tuple"), none, (Data.seq #[]), #[]⟩) ::
  (nat_lit 258, ⟨(.type "code"), none, (Data.fields #[.str (Str.ofString "double_sum") 481, .str (Str.ofString "double_sum") 482, .str (Str.ofString "/claim/cut.py") 483, .int 148 0, .int 1 0, .int 0 0, .int 0 0, .int 3 0, .ref 253, .bool true, .int 181 0, .ref 254, .none, .ref 255, .ref 256, .ref 257, .int 487 0, .int 148 0, .str (Str.ofString "/claim/cut.py") 488]), #[]⟩) ::
  (nat_lit 259, fnOb (stAt pw_pq1322_01.main.body 35) (Str.ofString "double_sum") .none .none .none (.str (Str.ofString "vectorcove.summaries") 479) none (.ref 258) .none 0) ::
  (nat_lit 260, ⟨(.type "tuple"), none, (Data.seq #[]), #[]⟩) ::
  (nat_lit 263, ⟨(.type "code"), none, (Data.fields #[.str (Str.ofString "number_items") 490, .str (Str.ofString "number_items") 491, .str (Str.ofString "/claim/cut.py") 492, .int 153 0, .int 1 0, .int 0 0, .int 0 0, .int 3 0, .ref 260, .bool true, .int 181 0, .ref 261, .none, .none, .none, .ref 262, .int 493 0, .int 153 0, .str (Str.ofString "/claim/cut.py") 494]), #[]⟩) ::
  (nat_lit 264, fnOb (stAt pw_pq1322_01.main.body 36) (Str.ofString "number_items") .none .none .none (.str (Str.ofString "vectorcove.summaries") 479) none (.ref 263) .none 0) ::
  (nat_lit 265, ⟨(.type "tuple"), none, (Data.seq #[]), #[]⟩) ::
  (nat_lit 267, ⟨(.type "tuple"), none, (Data.seq #[.str (Str.ofString "items") 499]), #[]⟩) ::
  (nat_lit 268, ⟨(.type "tuple"), none, (Data.seq #[]), #[]⟩) ::
  (nat_lit 270, ⟨(.type "code"), none, (Data.fields #[.str (Str.ofString "mean_items") 496, .str (Str.ofString "mean_items") 497, .str (Str.ofString "/claim/cut.py") 498, .int 159 0, .int 1 0, .int 0 0, .int 0 0, .int 3 0, .ref 265, .bool true, .int 181 0, .ref 266, .none, .ref 267, .ref 268, .ref 269, .int 500 0, .int 159 0, .str (Str.ofString "/claim/cut.py") 501]), #[]⟩) ::
  (nat_lit 271, fnOb (stAt pw_pq1322_01.main.body 37) (Str.ofString "mean_items") .none .none .none (.str (Str.ofString "vectorcove.summaries") 479) none (.ref 270) .none 0) ::
  (nat_lit 272, ⟨(.type "tuple"), none, (Data.seq #[]), #[]⟩) ::
  (nat_lit 274, ⟨(.type "tuple"), none, (Data.seq #[.str (Str.ofString "v") 506]), #[]⟩) ::
  (nat_lit 275, ⟨(.type "tuple"), none, (Data.seq #[]), #[]⟩) ::
  (nat_lit 277, ⟨(.type "code"), none, (Data.fields #[.str (Str.ofString "mean_of") 503, .str (Str.ofString "mean_of") 504, .str (Str.ofString "/claim/cut.py") 505, .int 163 0, .int 1 0, .int 0 0, .int 0 0, .int 3 0, .ref 272, .bool true, .int 181 0, .ref 273, .none, .ref 274, .ref 275, .ref 276, .int 507 0, .int 163 0, .str (Str.ofString "/claim/cut.py") 508]), #[]⟩) ::
  (nat_lit 278, fnOb (stAt pw_pq1322_01.main.body 38) (Str.ofString "mean_of") .none .none .none (.str (Str.ofString "vectorcove.summaries") 479) none (.ref 277) .none 0) ::
  (nat_lit 279, ⟨(.type "tuple"), none, (Data.seq #[]), #[]⟩) ::
  (nat_lit 281, ⟨(.type "tuple"), none, (Data.seq #[.str (Str.ofString "items") 513, .str (Str.ofString "item") 514, .str (Str.ofString "place") 515]), #[]⟩) ::
  (nat_lit 282, ⟨(.type "tuple"), none, (Data.seq #[.str (Str.ofString "scale") 516]), #[]⟩) ::
  (nat_lit 284, ⟨(.type "code"), none, (Data.fields #[.str (Str.ofString "ascending") 510, .str (Str.ofString "ascending") 511, .str (Str.ofString "/claim/cut.py") 512, .int 165 0, .int 1 0, .int 0 0, .int 0 0, .int 3 0, .ref 279, .bool true, .int 181 0, .ref 280, .none, .ref 281, .ref 282, .ref 283, .int 517 0, .int 165 0, .str (Str.ofString "/claim/cut.py") 518]), #[]⟩) ::
  (nat_lit 285, fnOb (stAt pw_pq1322_01.main.body 39) (Str.ofString "ascending") .none .none .none (.str (Str.ofString "vectorcove.summaries") 479) none (.ref 284) .none 0) ::
  (nat_lit 286, ⟨(.type "tuple"), none, (Data.seq #[]), #[]⟩) ::
  (nat_lit 288, ⟨(.type "tuple"), none, (Data.seq #[.str (Str.ofString "items") 523, .str (Str.ofString "item") 524]), #[]⟩) ::
  (nat_lit 289, ⟨(.type "tuple"), none, (Data.seq #[]), #[]⟩) ::
  (nat_lit 291, ⟨(.type "code"), none, (Data.fields #[.str (Str.ofString "lacking_item") 520, .str (Str.ofString "lacking_item") 521, .str (Str.ofString "/claim/cut.py") 522, .int 176 0, .int 1 0, .int 0 0, .int 0 0, .int 3 0, .ref 286, .bool true, .int 181 0, .ref 287, .none, .ref 288, .ref 289, .ref 290, .int 525 0, .int 176 0, .str (Str.ofString "/claim/cut.py") 526]), #[]⟩) ::
  (nat_lit 292, fnOb (stAt pw_pq1322_01.main.body 40) (Str.ofString "lacking_item") .none .none .none (.str (Str.ofString "vectorcove.summaries") 479) none (.ref 291) .none 0) ::
  (nat_lit 293, ⟨(.type "tuple"), none, (Data.seq #[]), #[]⟩) ::
  (nat_lit 295, ⟨(.type "tuple"), none, (Data.seq #[.str (Str.ofString "row") 531, .str (Str.ofString "p") 532, .str (Str.ofString "place") 533, .str (Str.ofString "low") 534, .str (Str.ofString "part") 535]), #[]⟩) ::
  (nat_lit 296, ⟨(.type "tuple"), none, (Data.seq #[]), #[]⟩) ::
  (nat_lit 298, ⟨(.type "code"), none, (Data.fields #[.str (Str.ofString "quantile_item") 528, .str (Str.ofString "quantile_item") 529, .str (Str.ofString "/claim/cut.py") 530, .int 181 0, .int 2 0, .int 0 0, .int 0 0, .int 3 0, .ref 293, .bool true, .int 181 0, .ref 294, .none, .ref 295, .ref 296, .ref 297, .int 536 0, .int 181 0, .str (Str.ofString "/claim/cut.py") 537]), #[]⟩) ::
  (nat_lit 299, fnOb (stAt pw_pq1322_01.main.body 41) (Str.ofString "quantile_item") .none .none .none (.str (Str.ofString "vectorcove.summaries") 479) none (.ref 298) .none 0) ::
  (nat_lit 300, ⟨(.type "tuple"), none, (Data.seq #[]), #[]⟩) ::
  (nat_lit 303, ⟨(.type "code"), none, (Data.fields #[.str (Str.ofString "quantile7") 539, .str (Str.ofString "quantile7") 540, .str (Str.ofString "/claim/cut.py") 541, .int 194 0, .int 2 0, .int 0 0, .int 0 0, .int 3 0, .ref 300, .bool true, .int 181 0, .ref 301, .none, .none, .none, .ref 302, .int 542 0, .int 194 0, .str (Str.ofString "/claim/cut.py") 543]), #[]⟩) ::
  (nat_lit 304, fnOb (stAt pw_pq1322_01.main.body 42) (Str.ofString "quantile7") .none .none .none (.str (Str.ofString "vectorcove.summaries") 479) none (.ref 303) .none 0) ::
  (nat_lit 305, ⟨(.type "tuple"), none, (Data.seq #[]), #[]⟩) ::
  (nat_lit 307, ⟨(.type "tuple"), none, (Data.seq #[.str (Str.ofString "v") 548, .str (Str.ofString "n") 549, .str (Str.ofString "counts") 550, .str (Str.ofString "item") 551, .str (Str.ofString "place") 552]), #[]⟩) ::
  (nat_lit 308, ⟨(.type "tuple"), none, (Data.seq #[]), #[]⟩) ::
  (nat_lit 310, ⟨(.type "code"), none, (Data.fields #[.str (Str.ofString "tabulate") 545, .str (Str.ofString "tabulate") 546, .str (Str.ofString "/claim/cut.py") 547, .int 200 0, .int 2 0, .int 0 0, .int 0 0, .int 3 0, .ref 305, .bool true, .int 181 0, .ref 306, .none, .ref 307, .ref 308, .ref 309, .int 553 0, .int 200 0, .str (Str.ofString "/claim/cut.py") 554]), #[]⟩) ::
  (nat_lit 311, fnOb (stAt pw_pq1322_01.main.body 43) (Str.ofString "tabulate") .none .none .none (.str (Str.ofString "vectorcove.summaries") 479) none (.ref 310) .none 0) ::
  (nat_lit 312, ⟨(.type "tuple"), none, (Data.seq #[]), #[]⟩) ::
  (nat_lit 314, ⟨(.type "tuple"), none, (Data.seq #[.str (Str.ofString "v") 561, .str (Str.ofString "names") 562]), #[]⟩) ::
  (nat_lit 315, ⟨(.type "tuple"), none, (Data.seq #[]), #[]⟩) ::
  (nat_lit 317, ⟨(.type "code"), none, (Data.fields #[.str (Str.ofString "with_names") 558, .str (Str.ofString "with_names") 559, .str (Str.ofString "/claim/cut.py") 560, .int 209 0, .int 2 0, .int 0 0, .int 0 0, .int 3 0, .ref 312, .bool true, .int 181 0, .ref 313, .none, .ref 314, .ref 315, .ref 316, .int 563 0, .int 209 0, .str (Str.ofString "/claim/cut.py") 564]), #[]⟩) ::
  (nat_lit 318, fnOb (stAt pw_pq1322_01.main.body 45) (Str.ofString "with_names") .none .none .none (.str (Str.ofString "vectorcove.dispcalls") 556) none (.ref 317) .none 0) ::
  (nat_lit 319, ⟨(.type "tuple"), none, (Data.seq #[]), #[]⟩) ::
  (nat_lit 322, ⟨(.type "code"), none, (Data.fields #[.str (Str.ofString "kept_numbers") 566, .str (Str.ofString "kept_numbers") 567, .str (Str.ofString "/claim/cut.py") 568, .int 212 0, .int 1 0, .int 0 0, .int 0 0, .int 3 0, .ref 319, .bool true, .int 181 0, .ref 320, .none, .none, .none, .ref 321, .int 569 0, .int 212 0, .str (Str.ofString "/claim/cut.py") 570]), #[]⟩) ::
  (nat_lit 323, fnOb (stAt pw_pq1322_01.main.body 46) (Str.ofString "kept_numbers") .none .none .none (.str (Str.ofString "vectorcove.dispcalls") 556) none (.ref 322) .none 0) ::
  (nat_lit 324, ⟨(.type "tuple"), none, (Data.seq #[]), #[]⟩) ::
  (nat_lit 326, ⟨(.type "tuple"), none, (Data.seq #[.str (Str.ofString "v") 575, .str (Str.ofString "kept") 576, .str (Str.ofString "shares") 577, .str (Str.ofString "found") 578, .str (Str.ofString "items") 579, .str (Str.ofString "names") 580, .str (Str.ofString "lacking") 581]), #[]⟩) ::
  (nat_lit 327, ⟨(.type "tuple"), none, (Data.seq #[]), #[]⟩) ::
  (nat_lit 329, ⟨(.type "code"), none, (Data.fields #[.str (Str.ofString "summary_numbers") 572, .str (Str.ofString "summary_numbers") 573, .str (Str.ofString "/claim/cut.py") 574, .int 214 0, .int 1 0, .int 0 0, .int 0 0, .int 3 0, .ref 324, .bool true, .int 181 0, .ref 325, .none, .ref 326, .ref 327, .ref 328, .int 582 0, .int 214 0, .str (Str.ofString "/claim/cut.py") 583]), #[]⟩) ::
  (nat_lit 330, fnOb (stAt pw_pq1322_01.main.body 47) (Str.ofString "summary_numbers") .none .none .none (.str (Str.ofString "vectorcove.dispcalls") 556) none (.ref 329) .none 0) ::
  (nat_lit 331, ⟨(.type "tuple"), none, (Data.seq #[]), #[]⟩) ::
  (nat_lit 333, ⟨(.type "tuple"), none, (Data.seq #[.str (Str.ofString "v") 588, .str (Str.ofString "items") 589, .str (Str.ofString "names") 590, .str (Str.ofString "value") 591, .str (Str.ofString "name") 592, .str (Str.ofString "count") 593, .str (Str.ofString "item") 594]), #[]⟩) ::
  (nat_lit 334, ⟨(.type "tuple"), none, (Data.seq #[]), #[]⟩) ::
  (nat_lit 336, ⟨(.type "code"), none, (Data.fields #[.str (Str.ofString "summary_truths") 585, .str (Str.ofString "summary_truths") 586, .str (Str.ofString "/claim/cut.py") 587, .int 225 0, .int 1 0, .int 0 0, .int 0 0, .int 3 0, .ref 331, .bool true, .int 181 0, .ref 332, .none, .ref 333, .ref 334, .ref 335, .int 595 0, .int 225 0, .str (Str.ofString "/claim/cut.py") 596]), #[]⟩) ::
  (nat_lit 337, fnOb (stAt pw_pq1322_01.main.body 48) (Str.ofString "summary_truths") .none .none .none (.str (Str.ofString "vectorcove.dispcalls") 556) none (.ref 336) .none 0) ::
  (nat_lit 338, ⟨(.type "tuple"), none, (Data.seq #[]), #[]⟩) ::
  (nat_lit 340, ⟨(.type "tuple"), none, (Data.seq #[.str (Str.ofString "v") 601, .str (Str.ofString "levels") 602, .str (Str.ofString "counts") 603, .str (Str.ofString "names") 604, .str (Str.ofString "lacking") 605]), #[]⟩) ::
  (nat_lit 341, ⟨(.type "tuple"), none, (Data.seq #[]), #[]⟩) ::
  (nat_lit 343, ⟨(.type "code"), none, (Data.fields #[.str (Str.ofString "summary_factor") 598, .str (Str.ofString "summary_factor") 599, .str (Str.ofString "/claim/cut.py") 600, .int 237 0, .int 1 0, .int 0 0, .int 0 0, .int 3 0, .ref 338, .bool true, .int 181 0, .ref 339, .none, .ref 340, .ref 341, .ref 342, .int 606 0, .int 237 0, .str (Str.ofString "/claim/cut.py") 607]), #[]⟩) ::
  (nat_lit 344, fnOb (stAt pw_pq1322_01.main.body 49) (Str.ofString "summary_factor") .none .none .none (.str (Str.ofString "vectorcove.dispcalls") 556) none (.ref 343) .none 0) ::
  (nat_lit 345, ⟨(.type "tuple"), none, (Data.seq #[]), #[]⟩) ::
  (nat_lit 347, ⟨(.type "tuple"), none, (Data.seq #[.str (Str.ofString "v") 612, .str (Str.ofString "kind") 613]), #[]⟩) ::
  (nat_lit 348, ⟨(.type "tuple"), none, (Data.seq #[]), #[]⟩) ::
  (nat_lit 350, ⟨(.type "code"), none, (Data.fields #[.str (Str.ofString "mode_of") 609, .str (Str.ofString "mode_of") 610, .str (Str.ofString "/claim/cut.py") 611, .int 246 0, .int 1 0, .int 0 0, .int 0 0, .int 3 0, .ref 345, .bool true, .int 181 0, .ref 346, .none, .ref 347, .ref 348, .ref 349, .int 614 0, .int 246 0, .str (Str.ofString "/claim/cut.py") 615]), #[]⟩) ::
  (nat_lit 351, fnOb (stAt pw_pq1322_01.main.body 50) (Str.ofString "mode_of") .none .none .none (.str (Str.ofString "vectorcove.dispcalls") 556) none (.ref 350) .none 0) ::
  (nat_lit 352, ⟨(.type "tuple"), none, (Data.seq #[]), #[]⟩) ::
  (nat_lit 354, ⟨(.type "tuple"), none, (Data.seq #[.str (Str.ofString "interp") 620, .str (Str.ofString "args") 621, .str (Str.ofString "env") 622, .str (Str.ofString "v") 623, .str (Str.ofString "classes") 624, .str (Str.ofString "shown") 625, .str (Str.ofString "items") 626]), #[]⟩) ::
  (nat_lit 355, ⟨(.type "tuple"), none, (Data.seq #[]), #[]⟩) ::
  (nat_lit 357, ⟨(.type "code"), none, (Data.fields #[.str (Str.ofString "b_summary") 617, .str (Str.ofString "b_summary") 618, .str (Str.ofString "/claim/cut.py") 619, .int 259 0, .int 3 0, .int 0 0, .int 0 0, .int 3 0, .ref 352, .bool true, .int 181 0, .ref 353, .none, .ref 354, .ref 355, .ref 356, .int 627 0, .int 259 0, .str (Str.ofString "/claim/cut.py") 628]), #[]⟩) ::
  (nat_lit 358, fnOb (stAt pw_pq1322_01.main.body 51) (Str.ofString "b_summary") .none .none .none (.str (Str.ofString "vectorcove.dispcalls") 556) none (.ref 357) .none 0) ::
  (nat_lit 359, ⟨(.type "tuple"), none, (Data.seq #[]), #[]⟩) ::
  (nat_lit 361, ⟨(.type "tuple"), none, (Data.seq #[.str (Str.ofString "source") 635, .str (Str.ofString "most") 636, .str (Str.ofString "found") 637]), #[]⟩) ::
  (nat_lit 362, ⟨(.type "tuple"), none, (Data.seq #[]), #[]⟩) ::
  (nat_lit 364, ⟨(.type "code"), none, (Data.fields #[.str (Str.ofString "_law_take") 632, .str (Str.ofString "_law_take") 633, .str (Str.ofString "/claim/cut.py") 634, .int 276 0, .int 2 0, .int 0 0, .int 0 0, .int 3 0, .ref 359, .bool true, .int 181 0, .ref 360, .none, .ref 361, .ref 362, .ref 363, .int 638 0, .int 276 0, .str (Str.ofString "/claim/cut.py") 639]), #[]⟩) ::
  (nat_lit 365, fnOb (stAt pw_pq1322_01.main.body 53) (Str.ofString "_law_take") .none .none .none (.str (Str.ofString "law_pq1322_01") 630) none (.ref 364) .none 0) ::
  (nat_lit 366, ⟨(.type "tuple"), none, (Data.seq #[]), #[]⟩) ::
  (nat_lit 368, ⟨(.type "tuple"), none, (Data.seq #[.str (Str.ofString "n") 644, .str (Str.ofString "d") 645, .str (Str.ofString "a") 646, .str (Str.ofString "b") 647]), #[]⟩) ::
  (nat_lit 369, ⟨(.type "tuple"), none, (Data.seq #[]), #[]⟩) ::
  (nat_lit 371, ⟨(.type "code"), none, (Data.fields #[.str (Str.ofString "_law_low") 641, .str (Str.ofString "_law_low") 642, .str (Str.ofString "/claim/cut.py") 643, .int 284 0, .int 2 0, .int 0 0, .int 0 0, .int 3 0, .ref 366, .bool true, .int 181 0, .ref 367, .none, .ref 368, .ref 369, .ref 370, .int 648 0, .int 284 0, .str (Str.ofString "/claim/cut.py") 649]), #[]⟩) ::
  (nat_lit 372, fnOb (stAt pw_pq1322_01.main.body 54) (Str.ofString "_law_low") .none .none .none (.str (Str.ofString "law_pq1322_01") 630) none (.ref 371) .none 0) ::
  (nat_lit 373, ⟨(.type "tuple"), none, (Data.seq #[]), #[]⟩) ::
  (nat_lit 375, ⟨(.type "tuple"), none, (Data.seq #[.str (Str.ofString "halves") 654, .str (Str.ofString "lost") 655, .str (Str.ofString "row") 656, .str (Str.ofString "count") 657, .str (Str.ofString "found") 658, .str (Str.ofString "quarter") 659, .str (Str.ofString "low") 660, .str (Str.ofString "rest") 661, .str (Str.ofString "top") 662, .str (Str.ofString "mean") 663, .str (Str.ofString "names") 664, .str (Str.ofString "items") 665]), #[]⟩) ::
  (nat_lit 376, ⟨(.type "tuple"), none, (Data.seq #[]), #[]⟩) ::
  (nat_lit 378, ⟨(.type "code"), none, (Data.fields #[.str (Str.ofString "_law_numbers") 651, .str (Str.ofString "_law_numbers") 652, .str (Str.ofString "/claim/cut.py") 653, .int 290 0, .int 2 0, .int 0 0, .int 0 0, .int 3 0, .ref 373, .bool true, .int 181 0, .ref 374, .none, .ref 375, .ref 376, .ref 377, .int 666 0, .int 290 0, .str (Str.ofString "/claim/cut.py") 667]), #[]⟩) ::
  (nat_lit 379, fnOb (stAt pw_pq1322_01.main.body 55) (Str.ofString "_law_numbers") .none .none .none (.str (Str.ofString "law_pq1322_01") 630) none (.ref 378) .none 0) ::
  (nat_lit 380, ⟨(.type "tuple"), none, (Data.seq #[]), #[]⟩) ::
  (nat_lit 382, ⟨(.type "tuple"), none, (Data.seq #[.str (Str.ofString "items") 672, .str (Str.ofString "told") 673, .str (Str.ofString "names") 674, .str (Str.ofString "value") 675, .str (Str.ofString "name") 676]), #[]⟩) ::
  (nat_lit 383, ⟨(.type "tuple"), none, (Data.seq #[]), #[]⟩) ::
  (nat_lit 385, ⟨(.type "code"), none, (Data.fields #[.str (Str.ofString "_law_truths") 669, .str (Str.ofString "_law_truths") 670, .str (Str.ofString "/claim/cut.py") 671, .int 305 0, .int 1 0, .int 0 0, .int 0 0, .int 3 0, .ref 380, .bool true, .int 181 0, .ref 381, .none, .ref 382, .ref 383, .ref 384, .int 677 0, .int 305 0, .str (Str.ofString "/claim/cut.py") 678]), #[]⟩) ::
  (nat_lit 386, fnOb (stAt pw_pq1322_01.main.body 56) (Str.ofString "_law_truths") .none .none .none (.str (Str.ofString "law_pq1322_01") 630) none (.ref 385) .none 0) ::
  (nat_lit 387, ⟨(.type "tuple"), none, (Data.seq #[]), #[]⟩) ::
  (nat_lit 390, ⟨(.type "code"), none, (Data.fields #[.str (Str.ofString "law") 680, .str (Str.ofString "law") 681, .str (Str.ofString "/claim/cut.py") 682, .int 313 0, .int 1 0, .int 0 0, .int 0 0, .int 3 0, .ref 387, .bool true, .int 181 0, .ref 388, .none, .none, .none, .ref 389, .int 683 0, .int 313 0, .str (Str.ofString "/claim/cut.py") 684]), #[]⟩) ::
  (nat_lit 391, fnOb (stAt pw_pq1322_01.main.body 57) (Str.ofString "law") .none .none .none (.str (Str.ofString "law_pq1322_01") 630) none (.ref 390) .none 0) :: []
noncomputable def keptBody (l : List Stmt) : List Stmt := ((((((l.eraseIdx 52).eraseIdx 44).eraseIdx 34).eraseIdx 28).eraseIdx 12).eraseIdx 9).eraseIdx 1
noncomputable def lawQ : Program := { PySem.Challenge.pw_pq1322_01 with main := { PySem.Challenge.pw_pq1322_01.main with body := keptBody PySem.Challenge.pw_pq1322_01.main.body } }
noncomputable def asK : List Nat := [2,3,15,17,18,20,21,22,24,25,27,28,29,31,32,34,35,36,38,39,41,42,43,45,46,48,49,50,52,53,55,56,57,59,60,62,63,64,66,67,69,70,71,78,79,80,81,84,91,93,94,96,97,98,99,100,103,104,105,107,108,110,111,112,114,115,117,118,119,121,122,124,125,126,128,129,131,132,133,135,136,138,139,140,142,143,145,146,147,149,150,152,153,154,156,157,159,160,161,163,164,166,167,168,170,171,173,174,175,177,178,180,181,182,184,185,187,188,189,191,192,194,195,203,204,206,207,209,210,211,213,214,216,217,218,219,220,221,222,225,227,228,230,231,232,234,235,237,238,239,241,242,244,245,246,248,249,251,252,253,255,256,258,259,260,263,264,265,267,268,270,271,272,274,275,277,278,279,281,282,284,285,286,288,289,291,292,293,295,296,298,299,300,303,304,305,307,308,310,311,312,314,315,317,318,319,322,323,324,326,327,329,330,331,333,334,336,337,338,340,341,343,344,345,347,348,350,351,352,354,355,357,358,359,361,362,364,365,366,368,369,371,372,373,375,376,378,379,380,382,383,385,386,387,390,391]
theorem said : OpenLaw.wellSaid PySem.Challenge.rw_pq1322_01 = true := by kernel_rfl
theorem left_seen (w : World) : (openEnds treeTable PySem.Challenge.pw_pq1322_01 w 4494).map (fun s => openSeen lawQ [] (importedModules PySem.Challenge.pw_pq1322_01.main.body) (fun s => xlAt lawQ [] s && recOk (RowW.records (OpenRow.toRowW (OpenLaw.row PySem.Challenge.rw_pq1322_01))) s) true s) = some (openGood lawQ []) := by kernel_rfl
theorem left_heap (w : World) : (openEnds treeTable PySem.Challenge.pw_pq1322_01 w 4494).map (Hook.obs (kmHook heapK asK (fun _ => by kernel_rfl) [280])) = some (Hook.val (kmHook heapK asK (fun _ => by kernel_rfl) [280]) w) := by kernel_rfl
theorem natsEq_iff : ∀ (a b : List Nat), natsEq a b = true ↔ a = b
  | [], [] => ⟨fun _ => rfl, fun _ => rfl⟩
  | [], _ :: _ => ⟨fun h => (nomatch h), fun h => (nomatch h)⟩
  | _ :: _, [] => ⟨fun h => (nomatch h), fun h => (nomatch h)⟩
  | x :: xs, y :: ys => by
    unfold natsEq
    cases h : Nat.beq x y with
    | true => rw [Nat.eq_of_beq_eq_true h]; simp only [natsEq_iff xs ys, List.cons.injEq, true_and]
    | false =>
      have : x ≠ y := Nat.ne_of_beq_eq_false h
      simp [this]
theorem strEq_iff {a b : Str} : strEq a b = true ↔ a = b := by
  unfold strEq
  rw [natsEq_iff]
  constructor
  · intro h
    obtain ⟨⟨l⟩⟩ := a; obtain ⟨⟨m⟩⟩ := b
    simp only at h; rw [h]
  · rintro rfl; rfl
theorem strEq_self (a : Str) : strEq a a = true := strEq_iff.mpr rfl
theorem strEq_ne {a b : Str} (h : strEq a b = false) : a ≠ b := fun e => by rw [strEq_iff.mpr e] at h; cases h
theorem strEq_beq (a b : Str) : (a == b) = strEq a b := by
  cases h : strEq a b with
  | true => rw [strEq_iff.mp h]; simp
  | false => simpa using strEq_ne h
theorem get_lookup {α : Type} (x : Str) : ∀ l : List (Str × α), get l x = l.lookup x
  | [] => rfl
  | p :: r => by
    obtain ⟨y, v⟩ := p
    unfold get
    rw [List.lookup_cons]
    cases h : strEq y x with
    | true => rw [strEq_iff.mp h]; simp
    | false =>
      have : (x == y) = false := by simpa using fun e => strEq_ne h e.symm
      rw [this]; exact get_lookup x r
theorem get_put (x y : Str) (v : SV) : ∀ l : List (Str × SV), get (put l x v) y = match strEq x y with | true => .some v | false => get l y
  | [] => by unfold put get; cases h : strEq x y <;> rfl
  | p :: r => by
    obtain ⟨z, u⟩ := p
    unfold put
    cases hz : strEq z x with
    | true =>
      have := strEq_iff.mp hz
      subst this
      show (match strEq z y with | true => some v | false => get r y) = _
      cases h : strEq z y with
      | true => rfl
      | false => show get r y = (match strEq z y with | true => some u | false => get r y); rw [h]
    | false =>
      show (match strEq z y with | true => some u | false => get (put r x v) y) = match strEq x y with | true => some v | false => (match strEq z y with | true => some u | false => get r y)
      rw [get_put x y v r]
      cases h : strEq z y with
      | false => rfl
      | true =>
        have : strEq x y = false := by
          cases q : strEq x y with
          | false => rfl
          | true =>
            exact absurd ((strEq_iff.mp h).trans (strEq_iff.mp q).symm) (strEq_ne hz)
        rw [this]
theorem atN_some {α : Type} {x : α} : ∀ {l : List α} {i : Nat}, atN l i = some x → i < l.length
  | _ :: _, 0, _ => Nat.succ_pos _
  | _ :: _, _ + 1, h => Nat.succ_lt_succ (atN_some h)
theorem atN_eq {α : Type} : ∀ (l : List α) (i : Nat), atN l i = l[i]?
  | [], _ => rfl
  | _ :: _, 0 => rfl
  | _ :: r, i + 1 => (atN_eq r i).trans (List.getElem?_cons_succ (a := _) (l := r)).symm
theorem atN_setN {α : Type} (x : α) : ∀ (l : List α) (i j : Nat), atN (setN l i x) j = if i = j ∧ i < l.length then some x else atN l j
  | [], i, j => by simp [setN, atN]
  | _ :: r, 0, 0 => by simp [setN, atN]
  | _ :: r, 0, j + 1 => by simp [setN, atN]
  | _ :: r, i + 1, 0 => by simp [setN, atN]
  | _ :: r, i + 1, j + 1 => by simp [setN, atN, atN_setN x r i j]
theorem setN_length {α : Type} (x : α) : ∀ (l : List α) (i : Nat), (setN l i x).length = l.length
  | [], _ => rfl
  | _ :: _, 0 => rfl
  | _ :: r, i + 1 => congrArg Nat.succ (setN_length x r i)
theorem atN_append {α : Type} (l m : List α) (i : Nat) : atN (l ++ m) i = if i < l.length then atN l i else atN m (i - l.length) := by
  simp only [atN_eq, List.getElem?_append]

mutual
inductive Den (h : Heap) (ρ : List Addr) : SV → Value → Prop
  | none : Den h ρ .none .none
  | bool (b) : Den h ρ (.bool b) (.bool b)
  | int (i t) : Den h ρ (.int i) (.int i t)
  | str (x t) : Den h ρ (.str x) (.str x t)
  | tup {l vs a} : IsTup h a (List.toArray vs) → a ∉ ρ → Dens h ρ l vs → Den h ρ (.tup l) (.ref a)
  | own {i a} : atN ρ i = some a → Den h ρ (.own i) (.ref a)
  | glo (a) : Den h ρ (.glo a) (.ref a)
  | prim (v) : Den h ρ (.prim v) v
  | rng {n a t u v} : 0 ≤ n → n ≤ 1000 → IsRange h a 0 n 1 t u v → a ∉ ρ → Den h ρ (.rng n) (.ref a)
  | blist (v xs) : Den h ρ (.blist v xs) v
inductive Dens (h : Heap) (ρ : List Addr) : List SV → List Value → Prop
  | nil : Dens h ρ [] []
  | cons {s l v vs} : Den h ρ s v → Dens h ρ l vs → Dens h ρ (s :: l) (v :: vs)
end
inductive Ents (h : Heap) (ρ : List Addr) : List (Str × SV) → List DictEntry → Prop
  | nil : Ents h ρ [] []
  | cons {x s l e es t} : e.key = .str x t → Den h ρ s e.val → Ents h ρ l es → Ents h ρ ((x, s) :: l) (e :: es)
inductive Kvs (h : Heap) (ρ : List Addr) : List (Str × SV) → List (Str × Value) → Prop
  | nil : Kvs h ρ [] []
  | cons {x s l v kvs} : Den h ρ s v → Kvs h ρ l kvs → Kvs h ρ ((x, s) :: l) ((x, v) :: kvs)
inductive Lay (prog : Program) (w : World) (h : Heap) (ρ : List Addr) : SO → Addr → Prop
  | list {l vs n a} : h.get? a = some (PySem.W.listOf (List.toArray vs) n) → Dens h ρ (SL.den l) vs → Lay prog w h ρ (.list l) a
  | inst {c d dx a} : atN ρ d = some dx → h.get? a = some (instObj c dx) → Lay prog w h ρ (.inst c d) a
  | idict {l es n a} : h.get? a = some (dictOf es n) → Ents h ρ l es → es.length ≤ 100 → Lay prog w h ρ (.idict l) a
  | sdict {l o kvs a} : h.get? a = some o → o.IsDictOf (PySem.strKind prog w) kvs → Kvs h ρ l kvs → (a == sysModules) = false → Lay prog w h ρ (.sdict l) a
  | tab0 : h.get? 280 = some (tabObj #[]) → Lay prog w h ρ (.tab true) 280
  | tab1 {ps} : h.get? 280 = some (tabObj ps) → Lay prog w h ρ (.tab false) 280
structure Led (prog : Program) (w : World) (b h : Heap) (ρ : List Addr) (led : List SO) : Prop where
  len : ρ.length = led.length
  inj : ∀ i j a, atN ρ i = some a → atN ρ j = some a → i = j
  lay : ∀ i a o, atN ρ i = some a → atN led i = some o → Lay prog w h ρ o a
  off : ∀ a ∈ ρ, b.get? a = none
/-- what a piece of the run may have turned: the objects of X and of the ledger -/
structure Ext (X : List Addr) (ρ : List Addr) (h : Heap) (ρ' : List Addr) (h' : Heap) : Prop where
  pre : ∀ i a, atN ρ i = some a → atN ρ' i = some a
  keep : ∀ a o, h.get? a = some o → a ∉ X → a ∉ ρ → h'.get? a = some o
  fresh : ∀ a ∈ ρ', a ∉ ρ → h.get? a = none
  live : ∀ a o, h.get? a = some o → a ∉ X → ∃ o', h'.get? a = some o'
theorem Ext.refl {X ρ h} : Ext X ρ h ρ h := ⟨fun _ _ e => e, fun _ _ e _ _ => e, fun _ i n => absurd i n, fun _ o e _ => ⟨o, e⟩⟩
theorem Ext.off {X ρ h ρ' h' a o} (x : Ext X ρ h ρ' h') (e : h.get? a = some o) (n : a ∉ ρ) : a ∉ ρ' := fun q => by rw [x.fresh a q n] at e; cases e
theorem Ext.trans {X ρ h ρ₁ h₁ ρ₂ h₂} (x : Ext X ρ h ρ₁ h₁) (y : Ext X ρ₁ h₁ ρ₂ h₂) (off : ∀ a ∈ X, a ∉ ρ₂) : Ext X ρ h ρ₂ h₂ := by
  refine ⟨fun i a e => y.pre i a (x.pre i a e), fun a o e hx hr => y.keep a o (x.keep a o e hx hr) hx (x.off e hr), fun a q n => ?_, fun a o e nX => ?_⟩
  · by_cases q₁ : a ∈ ρ₁
    · exact x.fresh a q₁ n
    · cases e : h.get? a with
      | none => rfl
      | some o =>
        obtain ⟨o', e'⟩ := x.live a o e (fun m => off a m q)
        rw [y.fresh a q q₁] at e'; cases e'
  · obtain ⟨o', e'⟩ := x.live a o e nX
    exact y.live a o' e' nX
theorem Ext.mono {X Y ρ h ρ' h'} (x : Ext X ρ h ρ' h') (s : ∀ a ∈ X, a ∈ Y) : Ext Y ρ h ρ' h' := ⟨x.pre, fun a o e n r => x.keep a o e (fun q => n (s a q)) r, x.fresh, fun a o e n => x.live a o e fun q => n (s a q)⟩
/-- the frame and its cells: no tuples, no ranges -/
noncomputable def Soft (h : Heap) (X : List Addr) : Prop := ∀ a ∈ X, ∃ o, h.get? a = some o ∧ (∀ xs n, o.cls = .type "tuple" → o.data ≠ .seq xs n) ∧ ∀ vs, o.cls = .type "range" → o.data ≠ .fields vs
section
variable {X : List Addr} {ρ ρ' : List Addr} {h h' : Heap}
mutual
theorem Den.ext (x : Ext X ρ h ρ' h') (q : Soft h X) : ∀ {s v}, Den h ρ s v → Den h' ρ' s v
  | _, _, .none => .none
  | _, _, .bool b => .bool b
  | _, _, .int i t => .int i t
  | _, _, .str y t => .str y t
  | _, _, .tup it n d => by
    obtain ⟨o, e, c, k, dd⟩ := it
    refine .tup ⟨o, x.keep _ _ e (fun m => ?_) n, c, k, dd⟩ (x.off e n) (Dens.ext x q d)
    obtain ⟨o', e', h1, _⟩ := q _ m
    rw [e] at e'; cases e'; exact h1 _ _ c dd
  | _, _, .own e => .own (x.pre _ _ e)
  | _, _, .glo a => .glo a
  | _, _, .prim v => .prim v
  | _, _, .rng h0 h1 e n => by
    refine .rng h0 h1 (x.keep _ _ e (fun m => ?_) n) (x.off e n)
    obtain ⟨o', e', _, h2⟩ := q _ m
    rw [e] at e'; cases e'; exact h2 _ rfl rfl
  | _, _, .blist v xs => .blist v xs
theorem Dens.ext (x : Ext X ρ h ρ' h') (q : Soft h X) : ∀ {l vs}, Dens h ρ l vs → Dens h' ρ' l vs
  | _, _, .nil => .nil
  | _, _, .cons a b => .cons (Den.ext x q a) (Dens.ext x q b)
end
theorem Ents.ext (x : Ext X ρ h ρ' h') (q : Soft h X) : ∀ {l es}, Ents h ρ l es → Ents h' ρ' l es
  | _, _, .nil => .nil
  | _, _, .cons e a b => .cons e (a.ext x q) (Ents.ext x q b)
theorem Kvs.ext (x : Ext X ρ h ρ' h') (q : Soft h X) : ∀ {l es}, Kvs h ρ l es → Kvs h' ρ' l es
  | _, _, .nil => .nil
  | _, _, .cons a b => .cons (a.ext x q) (Kvs.ext x q b)
theorem Lay.ext {prog w o a} (x : Ext X ρ h ρ' h') (q : Soft h X) (e : ∀ o, h.get? a = some o → h'.get? a = some o) : Lay prog w h ρ o a → Lay prog w h' ρ' o a
  | .list e' d => .list (e _ e') (d.ext x q)
  | .inst e' d => .inst (x.pre _ _ e') (e _ d)
  | .idict e' d n => .idict (e _ e') (d.ext x q) n
  | .sdict e' d k n => .sdict (e _ e') d (k.ext x q) n
  | .tab0 e' => .tab0 (e _ e')
  | .tab1 e' => .tab1 (e _ e')
end
theorem Dens.length {h ρ} : ∀ {l vs}, Dens h ρ l vs → vs.length = l.length
  | _, _, .nil => rfl
  | _, _, .cons _ b => congrArg Nat.succ (Dens.length b)
theorem Dens.at {h ρ x} : ∀ {l vs i}, Dens h ρ l vs → atN l i = some x → ∃ v, vs[i]? = some v ∧ Den h ρ x v
  | _, _, 0, .cons a _, e => by cases e; exact ⟨_, rfl, a⟩
  | _, _, i + 1, .cons _ b, e => by
    obtain ⟨v, q, d⟩ := Dens.at b (show atN _ i = some x from e)
    exact ⟨v, by simpa using q, d⟩
theorem Dens.append {h ρ} : ∀ {l vs m us}, Dens h ρ l vs → Dens h ρ m us → Dens h ρ (l ++ m) (vs ++ us)
  | _, _, _, _, .nil, b => b
  | _, _, _, _, .cons a c, b => .cons a (c.append b)
theorem Dens.take {h ρ} : ∀ {l vs} (k : Nat), Dens h ρ l vs → Dens h ρ (l.take k) (vs.take k)
  | _, _, 0, _ => by simp only [List.take_zero]; exact .nil
  | _, _, _ + 1, .nil => .nil
  | _, _, k + 1, .cons a b => .cons a (b.take k)
theorem Dens.drop {h ρ} : ∀ {l vs} (k : Nat), Dens h ρ l vs → Dens h ρ (l.drop k) (vs.drop k)
  | _, _, 0, d => d
  | _, _, _ + 1, .nil => .nil
  | _, _, k + 1, .cons _ b => b.drop k
theorem Dens.set {h ρ x v} (d : Den h ρ x v) : ∀ {l vs} (k : Nat), Dens h ρ l vs → Dens h ρ (setN l k x) (vs.set k v)
  | _, _, _, .nil => .nil
  | _, _, 0, .cons _ b => .cons d b
  | _, _, k + 1, .cons a b => .cons a (Dens.set d k b)
theorem Dens.replicate {h ρ x v} (d : Den h ρ x v) : ∀ n, Dens h ρ (List.replicate n x) (List.replicate n v)
  | 0 => .nil
  | n + 1 => .cons d (Dens.replicate d n)
theorem Dens.ints {h ρ} : ∀ {xs : List Int} {vs}, Dens h ρ (xs.map .int) vs → IntsAre vs xs
  | [], _, .nil => .nil
  | x :: xs, _, .cons (.int _ t) b => .cons x t (Dens.ints b)
theorem Dens.ofInts {h ρ} : ∀ {xs : List Int} {vs}, IntsAre vs xs → Dens h ρ (xs.map .int) vs
  | _, _, .nil => .nil
  | _, _, .cons x t b => .cons (.int x t) (Dens.ofInts b)
theorem SL.len_den (l : SL) : l.den.length = l.len := by
  cases l <;> simp [SL.den, SL.len]
theorem Led.ext {prog w b h h' ρ ρ' X led} (D : Led prog w b h ρ led) (x : Ext X ρ h ρ' h') (q : Soft h X) (k : ∀ a ∈ ρ, ∀ o, h.get? a = some o → h'.get? a = some o) (e : ρ' = ρ) : Led prog w b h' ρ led := by
  subst e
  exact ⟨D.len, D.inj, fun i a o ea eo => (D.lay i a o ea eo).ext x q (k a (by rw [atN_eq] at ea; exact List.mem_of_getElem? ea)), D.off⟩
theorem atN_mem {α : Type} {l : List α} {i : Nat} {a : α} (e : atN l i = some a) : a ∈ l := by rw [atN_eq] at e; exact List.mem_of_getElem? e
theorem Led.live {prog w b h ρ led} (D : Led prog w b h ρ led) : ∀ c ∈ ρ, ∃ o, h.get? c = some o := fun c m => by
  obtain ⟨i, hi, e⟩ := List.mem_iff_getElem.mp m
  have e1 : atN ρ i = some c := by rw [atN_eq, List.getElem?_eq_getElem hi, e]
  have hi' : i < led.length := D.len ▸ hi
  have e2 : atN led i = some led[i] := by rw [atN_eq, List.getElem?_eq_getElem hi']
  generalize led[i] = o at e2
  cases D.lay i c _ e1 e2 with
  | list g _ => exact ⟨_, g⟩
  | inst _ g => exact ⟨_, g⟩
  | idict g _ _ => exact ⟨_, g⟩
  | sdict g _ _ _ => exact ⟨_, g⟩
  | tab0 g => exact ⟨_, g⟩
  | tab1 g => exact ⟨_, g⟩
/-- a new object at the ledger's end -/
theorem Led.push {prog w b h h' ρ led a o X} (D : Led prog w b h ρ led) (x : Ext X ρ h (ρ ++ [a]) h') (q : Soft h X) (k : ∀ c ∈ ρ, ∀ o, h.get? c = some o → h'.get? c = some o) (ha : h.get? a = none) (hb : b.get? a = none) (ho : Lay prog w h' (ρ ++ [a]) o a) : Led prog w b h' (ρ ++ [a]) (led ++ [o]) := by
  have na : a ∉ ρ := fun m => by obtain ⟨o, e⟩ := D.live a m; rw [ha] at e; cases e
  refine ⟨by simp [D.len], fun i j c ei ej => ?_, fun i c o' ec eo => ?_, fun c m => ?_⟩
  · rw [atN_append] at ei ej
    split at ei <;> split at ej
    · exact D.inj i j c ei ej
    · rename_i h1 h2
      have : j - ρ.length = 0 := by
        cases q : j - ρ.length with
        | zero => rfl
        | succ n => rw [q] at ej; cases ej
      rw [this] at ej; cases ej; exact absurd (atN_mem ei) na
    · rename_i h1 h2
      have : i - ρ.length = 0 := by
        cases q : i - ρ.length with
        | zero => rfl
        | succ n => rw [q] at ei; cases ei
      rw [this] at ei; cases ei; exact absurd (atN_mem ej) na
    · have h1 := atN_some ei; have h2 := atN_some ej
      simp only [List.length_cons, List.length_nil] at h1 h2
      omega
  · rw [atN_append] at ec eo
    rw [← D.len] at eo
    split at ec
    · rename_i hi
      rw [if_pos hi] at eo
      exact (D.lay i c o' ec eo).ext x q (k c (atN_mem ec))
    · rename_i hi
      rw [if_neg hi] at eo
      have : i - ρ.length = 0 := by
        cases q : i - ρ.length with
        | zero => rfl
        | succ n => rw [q] at ec; cases ec
      rw [this] at ec eo; cases ec; cases eo; exact ho
  · rcases List.mem_append.mp m with m | m
    · exact D.off c m
    · rw [List.mem_singleton.mp m]; exact hb
/-- one object of the ledger turned -/
theorem Led.set {prog w b h h' ρ led X o' a} {i : Nat} (D : Led prog w b h ρ led) (x : Ext X ρ h ρ h') (q : Soft h X) (ea : atN ρ i = some a) (k : ∀ c ∈ ρ, c ≠ a → ∀ o, h.get? c = some o → h'.get? c = some o)
    (ho : Lay prog w h' ρ o' a) : Led prog w b h' ρ (setN led i o') := by
  refine ⟨by rw [setN_length, D.len], D.inj, fun j c o ec eo => ?_, D.off⟩
  rw [atN_setN] at eo
  split at eo
  · rename_i hc
    cases eo
    rw [← hc.1, ea] at ec; cases ec; exact ho
  · rename_i hc
    refine (D.lay j c o ec eo).ext x q (k c (atN_mem ec) fun e => ?_)
    subst e
    have := D.inj i j c ea ec
    exact hc ⟨this, D.len ▸ atN_some ea⟩
structure EnvOk (env : Env) : Prop where
  kind : env.scope.kind = .function
  glob : env.globals = mainGlobals
  blt : env.builtins = builtinsNs
  names : okNames env.scope.names = true
  cells : ∀ x, env.kindOf x = some .cell → (env.cells.lookup x).isSome = true
noncomputable def AOk (lv : Nat) (A : Around) : Prop := A.handled = none ∧ A.depth + lv + 110 < recursionLimit ∧ A.units + 8 * lv + 200 < cLine ∧
  ∃ e l, A.frames = some (e :: l) ∧ e.scope.isGenerator = false ∧ e.scope.isCoroutine = false ∧ e.builtins = builtinsNs ∧ e.globals = mainGlobals
structure Sta (prog : Program) (w : World) (b : Heap) : Prop where
  K : (heapK w.params).In b
  tree : prog.given.tree = none
  g : ∃ mg, b.Ns mainGlobals mg
  bl : ∃ mb, b.Ns builtinsNs mb ∧ ∀ x : Str, x ≠ "__name__" → mb x = bootBuiltins x
  nolimit : b.NoLimit
  seer : b.NoSeer
  bm : ∃ mg, b.Ns mainGlobals mg ∧ ∃ bm ob, mg "__builtins__" = some (.ref bm) ∧ bm ≠ builtinsNs ∧ b.get? bm = some ob ∧ ob.cls = .type "module" ∧ ob.dict = some builtinsNs ∧ ob.data = .plain
inductive GDen (w : World) : SV → Value → Prop
  | glo (a) : GDen w (.glo a) (.ref a)
  | pair {a i j t u n d sl} : (heapK w.params).lookup a = some ⟨.type "tuple", d, .seq (List.toArray [.int i t, .int j u]) n, sl⟩ → GDen w (.tup [.int i, .int j]) (.ref a)
noncomputable def GlE (w : World) (x : Str) (sv : SV) : Prop :=
  (∃ v, nsIn (heapK w.params) mainGlobals x = some (some v) ∧ GDen w sv v) ∨ (∃ v, nsIn (heapK w.params) mainGlobals x = some none ∧ bootBuiltins x = some v ∧ x ≠ "__name__" ∧ sv = .prim v)
noncomputable def GlOk (w : World) (gl : List (Str × SV)) : Prop := ∀ x sv, get gl x = some sv → GlE w x sv
noncomputable def xs (env : Env) : List Addr := env.locals :: env.cells.map (·.2)
noncomputable def Holds (env : Env) (h : Heap) (ρ : List Addr) (m : Str → Option Value) (x : Str) (sv : SV) : Prop :=
  ∃ v, Den h ρ sv v ∧ ((env.kindOf x = some .local ∧ m x = some v) ∨ ((env.kindOf x = some .cell ∨ env.kindOf x = some .free) ∧ ∃ c, env.cells.lookup x = some c ∧ h.IsCell c (some v)))
structure Rel (prog : Program) (w : World) (b : Heap) (env : Env) (ρ : List Addr) (s : St) (h : Heap) : Prop where
  led : Led prog w b h ρ s.led
  stays : ∀ a o, b.get? a = some o → h.get? a = some o
  frame : ∃ m, h.Ns env.locals m ∧ ∀ x sv, get s.loc x = some sv → Holds env h ρ m x sv
  above : b.get? env.locals = none
  abc : ∀ c ∈ env.cells.map (·.2), b.get? c = none ∧ ∃ v, h.IsCell c v
  off : ∀ a ∈ xs env, a ∉ ρ
  inj : ∀ x y c, env.cells.lookup x = some c → env.cells.lookup y = some c → x = y
section
variable {prog : Program} {w : World} {b : Heap} {env : Env} {ρ ρ' : List Addr} {s s' : St} {h h' : Heap}
theorem Rel.soft (R : Rel prog w b env ρ s h) : Soft h (xs env) := fun a m => by
  rcases List.mem_cons.mp m with rfl | m
  · obtain ⟨_, ⟨o, es, ep, e, d, _⟩, _⟩ := R.frame
    refine ⟨o, e, fun xs n _ q => ?_, fun vs _ q => ?_⟩ <;> (rw [d] at q; cases q)
  · obtain ⟨_, v, o, e, d⟩ := R.abc a m
    refine ⟨o, e, fun xs n _ q => ?_, fun vs _ q => ?_⟩ <;> (rw [d] at q; cases q)
theorem Rel.xnone (R : Rel prog w b env ρ s h) : ∀ a ∈ xs env, b.get? a = none := fun a m => by
  rcases List.mem_cons.mp m with rfl | m
  · exact R.above
  · exact (R.abc a m).1
theorem cells_mem {x : Str} {c : Addr} {cl : List (Str × Addr)} (e : cl.lookup x = some c) : c ∈ cl.map (·.2) := by
  induction cl with
  | nil => cases e
  | cons p r ih =>
    obtain ⟨y, d⟩ := p
    rw [List.lookup_cons] at e
    split at e
    · cases e; exact List.mem_cons_self
    · exact List.mem_cons_of_mem _ (ih e)
/-- what a callee or a builtin leaves as it was: the whole frame -/
theorem Rel.outer (R : Rel prog w b env ρ s h) (x : Ext [] ρ h ρ' h') (D : Led prog w b h' ρ' s'.led) (el : s'.loc = s.loc) : Rel prog w b env ρ' s' h' := by
  have hx : ∀ a ∈ xs env, ∀ o, h.get? a = some o → h'.get? a = some o := fun a m o e => x.keep a o e (by simp) (R.off a m)
  obtain ⟨m, hn, hh⟩ := R.frame
  have q : Soft h [] := fun _ m => nomatch m
  refine ⟨D, fun a o e => ?_, ⟨m, ?_, fun y sv e => ?_⟩, R.above, fun c hc => ?_, fun a ha => ?_, R.inj⟩
  · refine x.keep a o (R.stays a o e) (by simp) fun hm => ?_
    rw [R.led.off a hm] at e; cases e
  · obtain ⟨o, es, ep, e, r⟩ := hn
    exact ⟨o, es, ep, hx _ List.mem_cons_self o e, r⟩
  · rw [el] at e
    obtain ⟨v, d, k⟩ := hh y sv e
    refine ⟨v, d.ext x q, k.imp id fun ⟨k, c, ec, o, eo, r⟩ => ⟨k, c, ec, o, hx c (List.mem_cons_of_mem _ (cells_mem ec)) o eo, r⟩⟩
  · obtain ⟨k, v, o, e, r⟩ := R.abc c hc
    exact ⟨k, v, o, hx c (List.mem_cons_of_mem _ hc) o e, r⟩
  · obtain ⟨o, e, _⟩ := R.soft a ha
    exact x.off e (R.off a ha)
/-- the empty heap, as the kit's base: then all that stands is news -/
noncomputable def e0 : Heap := {}
theorem e0_get (a : Addr) : e0.get? a = none := by
  cases e : e0.get? a with
  | none => rfl
  | some o => exact absurd (Heap.lt_size e) (Nat.not_lt_zero a)
theorem Rel.fr (R : Rel prog w b env ρ s h) : ∃ m, Fr e0 env.locals h m ∧ ∀ x sv, get s.loc x = some sv → Holds env h ρ m x sv := by
  obtain ⟨m, hn, hh⟩ := R.frame
  exact ⟨m, ⟨hn, fun b o e => (by rw [e0_get] at e; cases e), Nat.zero_le _⟩, hh⟩
/-- all that stands is as it stood -/
theorem Ext.grow {X : List Addr} (k : ∀ a o, h.get? a = some o → h'.get? a = some o) : Ext X ρ h ρ h' := ⟨fun _ _ e => e, fun a o e _ _ => k a o e, fun _ m n => absurd m n, fun a o e _ => ⟨o, k a o e⟩⟩
theorem Led.grow {led : List SO} (D : Led prog w b h ρ led) (k : ∀ a o, h.get? a = some o → h'.get? a = some o) : Led prog w b h' ρ led :=
  D.ext (X := []) (Ext.grow k) (fun _ m => nomatch m) (fun a _ o => k a o) rfl
theorem Rel.grow (R : Rel prog w b env ρ s h) (k : ∀ a o, h.get? a = some o → h'.get? a = some o) : Rel prog w b env ρ s h' :=
  R.outer (Ext.grow k) (R.led.grow k) rfl
end
structure Mid (prog : Program) (w : World) (b : Heap) (env : Env) (ρ : List Addr) (st : Shared) (ρ' : List Addr) (s' : St) (st' : Shared) : Prop where
  os : st'.os = st.os
  gens : st'.gens = st.gens
  ext : Ext (xs env) ρ st.heap ρ' st'.heap
  rel : Rel prog w b env ρ' s' st'.heap
noncomputable def Post (prog : Program) (w : World) (b : Heap) (env : Env) (ρ : List Addr) (st : Shared) (K : SV → St → Prop) (v : Value) (st' : Shared) : Prop :=
  ∃ ρ' sv s', Mid prog w b env ρ st ρ' s' st' ∧ Den st'.heap ρ' sv v ∧ K sv s'
noncomputable def PostB (prog : Program) (w : World) (b : Heap) (env : Env) (ρ : List Addr) (st : Shared) (K : Bool → St → Prop) (c : Bool) (st' : Shared) : Prop :=
  ∃ ρ' s', Mid prog w b env ρ st ρ' s' st' ∧ K c s'
inductive FlD (h : Heap) (ρ : List Addr) : Fl → Flow → Prop
  | next : FlD h ρ .next .next
  | brk : FlD h ρ .brk .brk
  | cont : FlD h ρ .cont .cont
  | ret {sv v} : Den h ρ sv v → FlD h ρ (.ret sv) (.ret v)
noncomputable def PostF (prog : Program) (w : World) (b : Heap) (env : Env) (ρ : List Addr) (st : Shared) (K : Fl → St → Prop) (f : Flow) (st' : Shared) : Prop :=
  ∃ ρ' fl s', Mid prog w b env ρ st ρ' s' st' ∧ FlD st'.heap ρ' fl f ∧ K fl s'
noncomputable def PostU (prog : Program) (w : World) (b : Heap) (env : Env) (ρ : List Addr) (st : Shared) (K : St → Prop) (_ : Unit) (st' : Shared) : Prop :=
  ∃ ρ' s', Mid prog w b env ρ st ρ' s' st' ∧ K s'
noncomputable def PostL (prog : Program) (w : World) (b : Heap) (env : Env) (ρ : List Addr) (st : Shared) (K : List SV → St → Prop) (vs : List Value) (st' : Shared) : Prop :=
  ∃ ρ' svs s', Mid prog w b env ρ st ρ' s' st' ∧ Dens st'.heap ρ' svs vs ∧ K svs s'
section
variable {prog : Program} {w : World} {b : Heap} {env : Env} {ρ ρ' ρ'' : List Addr} {s s' s'' : St} {st st' st'' : Shared}
theorem Mid.refl (R : Rel prog w b env ρ s st.heap) : Mid prog w b env ρ st ρ s st := ⟨rfl, rfl, .refl, R⟩
theorem Mid.toks (R : Rel prog w b env ρ s st.heap) (n : Nat) : Mid prog w b env ρ st ρ s { st with toks := n } := ⟨rfl, rfl, .refl, R⟩
theorem Mid.trans (a : Mid prog w b env ρ st ρ' s' st') (c : Mid prog w b env ρ' st' ρ'' s'' st'') : Mid prog w b env ρ st ρ'' s'' st'' :=
  ⟨c.os.trans a.os, c.gens.trans a.gens, a.ext.trans c.ext c.rel.off, c.rel⟩
theorem Post.trans {K v} (a : Mid prog w b env ρ st ρ' s' st') (x : Post prog w b env ρ' st' K v st'') : Post prog w b env ρ st K v st'' :=
  let ⟨ρ₂, sv, s₂, m, d, k⟩ := x; ⟨ρ₂, sv, s₂, a.trans m, d, k⟩
theorem PostB.trans {K v} (a : Mid prog w b env ρ st ρ' s' st') (x : PostB prog w b env ρ' st' K v st'') : PostB prog w b env ρ st K v st'' :=
  let ⟨ρ₂, s₂, m, k⟩ := x; ⟨ρ₂, s₂, a.trans m, k⟩
theorem PostU.trans {K v} (a : Mid prog w b env ρ st ρ' s' st') (x : PostU prog w b env ρ' st' K v st'') : PostU prog w b env ρ st K v st'' :=
  let ⟨ρ₂, s₂, m, k⟩ := x; ⟨ρ₂, s₂, a.trans m, k⟩
theorem PostF.trans {K v} (a : Mid prog w b env ρ st ρ' s' st') (x : PostF prog w b env ρ' st' K v st'') : PostF prog w b env ρ st K v st'' :=
  let ⟨ρ₂, f, s₂, m, d, k⟩ := x; ⟨ρ₂, f, s₂, a.trans m, d, k⟩
theorem Den.mid {sv v} (d : Den st.heap ρ sv v) (m : Mid prog w b env ρ st ρ' s' st') (R : Rel prog w b env ρ s st.heap) : Den st'.heap ρ' sv v := d.ext m.ext R.soft
theorem Dens.mid {l vs} (d : Dens st.heap ρ l vs) (m : Mid prog w b env ρ st ρ' s' st') (R : Rel prog w b env ρ s st.heap) : Dens st'.heap ρ' l vs := d.ext m.ext R.soft
/-- the heap grew by things that nobody names -/
theorem Mid.grow {h' : Heap} {tk : Nat} (R : Rel prog w b env ρ s st.heap) (k : ∀ a o, st.heap.get? a = some o → h'.get? a = some o) : Mid prog w b env ρ st ρ s { st with heap := h', toks := tk } :=
  ⟨rfl, rfl, .grow k, R.grow k⟩
theorem Mid.push {tk : Nat} (R : Rel prog w b env ρ s st.heap) (o : Obj) : Mid prog w b env ρ st ρ s { st with heap := st.heap.push o, toks := tk } :=
  Mid.grow R fun _ _ e => Heap.get?_push_of_some _ e
theorem get_size (h : Heap) : h.get? h.objs.size = none := by
  cases e : h.get? h.objs.size with
  | none => rfl
  | some o => exact absurd (Heap.lt_size e) (Nat.lt_irrefl _)
/-- a new object of the ledger at an address that was free -/
theorem Mid.new {h' : Heap} {tk : Nat} {a : Addr} {o : SO} (R : Rel prog w b env ρ s st.heap) (k : ∀ a o, st.heap.get? a = some o → h'.get? a = some o) (ha : st.heap.get? a = none)
    (ho : Lay prog w h' (ρ ++ [a]) o a) : Mid prog w b env ρ st (ρ ++ [a]) { s with led := s.led ++ [o] } { st with heap := h', toks := tk } := by
  have hb : b.get? a = none := by
    cases e : b.get? a with
    | none => rfl
    | some x => rw [R.stays a x e] at ha; cases ha
  have x : Ext [] ρ st.heap (ρ ++ [a]) h' := ⟨fun i c e => by rw [atN_append, if_pos (atN_some e)]; exact e, fun c o e _ _ => k c o e, fun c m n => by
    rcases List.mem_append.mp m with m | m
    · exact absurd m n
    · rw [List.mem_singleton.mp m]; exact ha, fun c o e _ => ⟨o, k c o e⟩⟩
  exact ⟨rfl, rfl, x.mono (fun _ m => nomatch m), R.outer x (R.led.push x (fun _ m => nomatch m) (fun c _ o => k c o) ha hb ho) rfl⟩
theorem den_new {h' : Heap} {a : Addr} {led : List SO} (D : Led prog w b st.heap ρ led) : Den h' (ρ ++ [a]) (.own led.length) (.ref a) :=
  .own (by rw [atN_append, D.len, if_neg (Nat.lt_irrefl _), Nat.sub_self]; rfl)
/-- an object of the ledger turned -/
theorem Mid.set {h' : Heap} {tk : Nat} {a : Addr} {o : SO} {i : Nat} (R : Rel prog w b env ρ s st.heap) (ea : atN ρ i = some a) (k : ∀ c o, c ≠ a → st.heap.get? c = some o → h'.get? c = some o)
    (ho : Lay prog w h' ρ o a) (hl : ∃ o, h'.get? a = some o) : Mid prog w b env ρ st ρ { s with led := setN s.led i o } { st with heap := h', toks := tk } := by
  have x : Ext [] ρ st.heap ρ h' := ⟨fun _ _ e => e, fun c o e _ n => k c o (fun q => n (q ▸ atN_mem ea)) e, fun c m n => absurd m n, fun c o e _ => by
    by_cases q : c = a
    · subst q; exact hl
    · exact ⟨o, k c o q e⟩⟩
  exact ⟨rfl, rfl, x.mono (fun _ m => nomatch m), R.outer x (R.led.set x (fun _ m => nomatch m) ea (fun c _ n o => k c o n) ho) rfl⟩
/-- rules of the kit that speak of a frame and its news: all that stands is news -/
noncomputable def allNews (b : Heap) (L : Addr) (h : Heap) : List (Addr × Obj) := (List.range h.objs.size).filterMap fun a => if a = L then none else match b.get? a with | some _ => none | none => (h.get? a).map (a, ·)
theorem allNews_ok {b : Heap} {L : Addr} {h : Heap} : News b L h (allNews b L h) := fun p hp => by
  obtain ⟨a, _, e⟩ := List.mem_filterMap.mp hp
  split at e
  · cases e
  · rename_i hL
    split at e
    · cases e
    · rename_i hb
      cases q : h.get? a with
      | none => rw [q] at e; cases e
      | some o => rw [q] at e; cases e; exact ⟨q, hL, hb⟩
theorem mem_allNews {b : Heap} {L a : Addr} {h : Heap} {o : Obj} (e : h.get? a = some o) (n : a ≠ L) (hb : b.get? a = none) : (a, o) ∈ allNews b L h :=
  List.mem_filterMap.mpr ⟨a, List.mem_range.mpr (Heap.lt_size e), by rw [if_neg n, hb, e]; rfl⟩
theorem all_kept {b : Heap} {L : Addr} {h h' : Heap} {m m' : Str → Option Value} {news : List (Addr × Obj)} (F : Fr b L h m) (F' : Fr b L h' m') (N' : News b L h' news) (sub : ∀ p ∈ allNews b L h, p ∈ news) :
    ∀ a o, a ≠ L → h.get? a = some o → h'.get? a = some o := fun a o n e => by
  cases q : b.get? a with
  | some o' =>
    have := F.keep a o' q
    rw [e] at this; cases this
    exact F'.keep a o q
  | none => exact (N' _ (sub _ (mem_allNews e n q))).1
end
noncomputable abbrev F0 : Value → Shared → Prop := fun _ _ => False
theorem okNames_of {x : Str} {k : NameKind} : ∀ {sc : Sc}, okNames sc = true → get sc x = some k → (x == ("__debug__" : Str)) = false ∧ (x == ("__classdict__" : Str)) = false
  | p :: r, o, e => by
    unfold okNames at o
    rw [List.all_cons, Bool.and_eq_true] at o
    unfold get at e
    cases q : strEq p.1 x with
    | true =>
      have := strEq_iff.mp q
      subst this
      have o1 := o.1
      simp only [Bool.and_eq_true, Bool.not_eq_true'] at o1
      exact ⟨(strEq_beq _ _).trans o1.1, (strEq_beq _ _).trans o1.2⟩
    | false => rw [q] at e; exact okNames_of (sc := r) o.2 e
theorem kindOf_get (env : Env) (x : Str) : env.kindOf x = get env.scope.names x := (get_lookup x env.scope.names).symm
section
variable {prog : Program} {w : World} {b : Heap} {env : Env} {A : Around} {ρ : List Addr} {s : St} {st : Shared} {C : Cfg}
theorem seer_ok {lv : Nat} (S : Sta prog w b) (hA : AOk lv A) (stays : ∀ a o, b.get? a = some o → st.heap.get? a = some o) : PylongRoom (model prog w) A st := by
  obtain ⟨_, hd, _, e, l, hf, h1, h2, h3, h4⟩ := hA
  exact PylongRoom.of (S.nolimit.keeps stays) (by show A.depth + 100 < _; omega) (SeerAt.of (S.seer.keeps stays) S.tree hf h1 h2 h3 h4)
theorem const_ok {c : Const} {k : Nat} {pos : Pos} {K : KV} (R : Rel prog w b env ρ s st.heap) (h : constW c s K) : wpAny (model prog w) A (eval (.Constant c k pos) env) (Post prog w b env ρ st K) F0 st := by
  cases c with
  | none => exact wpAny_Constant_none ⟨ρ, _, s, .refl R, .none, h⟩
  | bool c => exact Constant_bool ⟨ρ, _, s, .refl R, .bool c, h⟩
  | int i => exact wpAny_Constant_int ⟨ρ, _, s, .toks R _, .int i _, h⟩
  | str x => exact Constant_str ⟨ρ, _, s, .toks R _, .str x _, h⟩
  | float => exact h.elim
  | complex => exact h.elim
  | bytes => exact h.elim
  | ellipsis => exact h.elim
theorem gden_den {sv : SV} {v : Value} (S : Sta prog w b) (D : Led prog w b st.heap ρ s.led) (stays : ∀ a o, b.get? a = some o → st.heap.get? a = some o) (g : GDen w sv v) : Den st.heap ρ sv v := by
  cases g with
  | glo a => exact .glo a
  | pair e =>
    have h := S.K _ _ e
    refine .tup ⟨_, stays _ _ h, rfl, _, rfl⟩ (fun m => ?_) (.cons (.int _ _) (.cons (.int _ _) .nil))
    rw [D.off _ m] at h; cases h
theorem name_okQ {x : Str} {pos : Pos} {K : KV} {Q : Value → Shared → Prop} (S : Sta prog w b) (G : GlOk w C.gl) (O : EnvOk env) (R : Rel prog w b env ρ s st.heap) (h : nameW C env.scope.names x s K) (hQ : ∀ v u, K v s → Den st.heap ρ v u → Q u st) :
    wpAny (model prog w) A (eval (.Name x pos) env) Q F0 st := by
  unfold nameW at h
  cases e : get s.loc x with
  | some sv =>
    rw [e] at h
    obtain ⟨m, hn, hh⟩ := R.frame
    obtain ⟨v, d, k⟩ := hh x sv e
    have q : Q v st := hQ sv v h d
    rcases k with ⟨k, hm⟩ | ⟨k | k, c, hc, hi⟩
    · have n := okNames_of O.names (by rw [← kindOf_get]; exact k)
      exact wpAny_Name (wpAny_loadName_local O.kind k hn hm q) n.1
    · have n := okNames_of O.names (by rw [← kindOf_get]; exact k)
      exact wpAny_Name (wpAny_loadName_cell O.kind k hc hi q) n.1
    · have n := okNames_of O.names (by rw [← kindOf_get]; exact k)
      exact wpAny_Name (wpAny_loadName_free O.kind k hc hi q n.2) n.1
  | none =>
    rw [e] at h
    dsimp only at h
    cases ek : get env.scope.names x with
    | none => rw [ek] at h; exact h.elim
    | some kd =>
      rw [ek] at h
      cases kd <;> first | exact h.elim | skip
      dsimp only at h
      have hk : env.kindOf x = some .globalImplicit := by rw [kindOf_get]; exact ek
      have n := okNames_of O.names ek
      cases eg : get C.gl x with
      | none => rw [eg] at h; exact h.elim
      | some sv =>
        rw [eg] at h
        obtain ⟨mg, hg⟩ := S.g
        rcases G x sv eg with ⟨v, e1, g⟩ | ⟨v, e1, e2, e3, rfl⟩
        · have hv := mg_of S.K hg e1
          exact Name_function_global O.kind hk (loadGlobal_global (by rw [O.glob]; exact hg.keeps R.stays) hv (hQ sv v h (gden_den S R.led R.stays g))) n.1
        · obtain ⟨mb, hb, hl⟩ := S.bl
          have hv := mg_none_of S.K hg e1
          exact Name_function_global O.kind hk (loadGlobal_builtin (by rw [O.glob]; exact hg.keeps R.stays) hv (by rw [O.blt]; exact hb.keeps R.stays) ((hl x e3).trans e2) (hQ _ _ h (.prim v))) n.1
theorem name_ok {x : Str} {pos : Pos} {K : KV} (S : Sta prog w b) (G : GlOk w C.gl) (O : EnvOk env) (R : Rel prog w b env ρ s st.heap) (h : nameW C env.scope.names x s K) :
    wpAny (model prog w) A (eval (.Name x pos) env) (Post prog w b env ρ st K) F0 st := name_okQ S G O R h fun v _ k d => ⟨ρ, v, s, .refl R, d, k⟩
theorem intOp_ok {lv : Nat} {op : Operator} {i j : Int} {t u : Tok} {K : Int → Prop} (S : Sta prog w b) (hA : AOk lv A) (R : Rel prog w b env ρ s st.heap) (h : intOp op i j K) :
    wpAny (model prog w) A (binaryOp op (.int i t) (.int j u)) (Post prog w b env ρ st fun v s' => s' = s ∧ ∃ k, v = .int k ∧ K k) F0 st := by
  have q : ∀ k n, K k → Post prog w b env ρ st (fun v s' => s' = s ∧ ∃ k, v = .int k ∧ K k) (.int k n) { st with toks := st.toks + 1 } := fun k n hk => ⟨ρ, .int k, s, .toks R _, .int _ _, rfl, k, rfl, hk⟩
  cases op <;> first | exact h.elim | skip
  · exact add_int (q _ _ h)
  · exact sub_int (q _ _ h)
  · exact mul_int (q _ _ h.2) h.1
  · exact mod_int' h.1 (q _ _ h.2)
  · exact floordiv_int h.1 (q _ _ h.2) (.inr (seer_ok S hA R.stays))
theorem new_list {l : SL} {vs : List Value} {K : KV} (R : Rel prog w b env ρ s st.heap) (d : Dens st.heap ρ l.den vs) (hz : vs.length ≤ sizeLine) (h : newObj (.list l) s K) :
    wpAny (model prog w) A (newList vs) (Post prog w b env ρ st K) F0 st := by
  refine wpAny_newList ?_ hz
  have m : Mid prog w b env ρ st (ρ ++ [st.heap.objs.size]) { s with led := s.led ++ [.list l] } { st with heap := st.heap.push (listOf vs.toArray 0) } :=
    Mid.new (tk := st.toks) R (fun _ _ e => Heap.get?_push_of_some _ e) (get_size _) (.list (n := 0) (Heap.get?_push_size _ rfl) (d.ext (X := []) ⟨fun i c e => by rw [atN_append, if_pos (atN_some e)]; exact e, fun c o e _ _ => Heap.get?_push_of_some _ e, fun c m n => by
      rcases List.mem_append.mp m with m | m
      · exact absurd m n
      · rw [List.mem_singleton.mp m]; exact get_size _, fun c o e _ => ⟨o, Heap.get?_push_of_some _ e⟩⟩ (fun _ m => nomatch m)))
  exact ⟨_, _, _, m, den_new R.led, h⟩
end
section
variable {prog : Program} {w : World} {b : Heap} {env : Env} {A : Around} {ρ ρ' : List Addr} {s s' : St} {st : Shared} {h h' : Heap} {m : Str → Option Value}
theorem cell_ne {L c : Addr} {v : Option Value} (hn : h.Ns L m) (hc : h.IsCell c v) : c ≠ L := fun e => by
  subst e
  obtain ⟨o, es, ep, e1, d1, _⟩ := hn
  obtain ⟨o', e2, d2⟩ := hc
  rw [e1] at e2; cases e2; rw [d1] at d2; cases d2
theorem Rel.outerL (R : Rel prog w b env ρ s h) (hn : h.Ns env.locals m) (hh : ∀ x sv, get s.loc x = some sv → Holds env h ρ m x sv) (hn' : h'.Ns env.locals m) (x : Ext [env.locals] ρ h ρ' h') (D : Led prog w b h' ρ' s'.led) (el : s'.loc = s.loc) : Rel prog w b env ρ' s' h' := by
  have nl : ∀ a o, h.get? a = some o → a ≠ env.locals → a ∉ ρ → h'.get? a = some o := fun a o e n q => x.keep a o e (by simpa using n) q
  have q : Soft h [env.locals] := fun a hm => R.soft a (by rw [List.mem_singleton.mp hm]; exact List.mem_cons_self)
  have cell : ∀ c v, h.IsCell c v → c ∈ env.cells.map (·.2) → h'.IsCell c v := fun c v hc hm => by
    obtain ⟨o, e, d⟩ := id hc
    exact ⟨o, nl c o e (cell_ne hn hc) (R.off c (List.mem_cons_of_mem _ hm)), d⟩
  refine ⟨D, fun a o e => ?_, ⟨m, hn', fun y sv e => ?_⟩, R.above, fun c hc => ?_, fun a ha => ?_, R.inj⟩
  · refine nl a o (R.stays a o e) (fun q => ?_) fun hm => ?_
    · rw [q, R.xnone _ List.mem_cons_self] at e; cases e
    · rw [R.led.off a hm] at e; cases e
  · rw [el] at e
    obtain ⟨v, d, k⟩ := hh y sv e
    exact ⟨v, d.ext x q, k.imp id fun ⟨k, c, ec, hc⟩ => ⟨k, c, ec, cell c _ hc (cells_mem ec)⟩⟩
  · obtain ⟨k, v, hcl⟩ := R.abc c hc
    exact ⟨k, v, cell c v hcl hc⟩
  · obtain ⟨o, e, _⟩ := R.soft a ha
    exact x.off e (R.off a ha)
theorem xs_one : ∀ a ∈ [env.locals], a ∈ xs env := fun a m => by rw [List.mem_singleton.mp m]; exact List.mem_cons_self
theorem led_ne (R : Rel prog w b env ρ s h) {a : Addr} (ha : a ∈ ρ) : a ≠ env.locals := fun e => R.off env.locals List.mem_cons_self (e ▸ ha)
theorem Mid.growL {tk : Nat} (R : Rel prog w b env ρ s st.heap) (hn : st.heap.Ns env.locals m) (hh : ∀ x sv, get s.loc x = some sv → Holds env st.heap ρ m x sv) (hn' : h'.Ns env.locals m)
    (k : ∀ a o, a ≠ env.locals → st.heap.get? a = some o → h'.get? a = some o) : Mid prog w b env ρ st ρ s { st with heap := h', toks := tk } := by
  have x : Ext [env.locals] ρ st.heap ρ h' := ⟨fun _ _ e => e, fun a o e n _ => k a o (by simpa using n) e, fun _ m n => absurd m n, fun a o e n => ⟨o, k a o (by simpa using n) e⟩⟩
  have q : Soft st.heap [env.locals] := fun a hm => R.soft a (xs_one a hm)
  exact ⟨rfl, rfl, x.mono xs_one, R.outerL hn hh hn' x (R.led.ext x q (fun a hm o => k a o (led_ne R hm)) rfl) rfl⟩
theorem Mid.newL {tk : Nat} {a : Addr} {o : SO} (R : Rel prog w b env ρ s st.heap) (hn : st.heap.Ns env.locals m) (hh : ∀ x sv, get s.loc x = some sv → Holds env st.heap ρ m x sv) (hn' : h'.Ns env.locals m)
    (k : ∀ a o, a ≠ env.locals → st.heap.get? a = some o → h'.get? a = some o) (ha : st.heap.get? a = none) (ho : (Ext [env.locals] ρ st.heap (ρ ++ [a]) h' → Lay prog w h' (ρ ++ [a]) o a)) :
    Mid prog w b env ρ st (ρ ++ [a]) { s with led := s.led ++ [o] } { st with heap := h', toks := tk } := by
  have x : Ext [env.locals] ρ st.heap (ρ ++ [a]) h' := ⟨fun i c e => by rw [atN_append, if_pos (atN_some e)]; exact e, fun a o e n _ => k a o (by simpa using n) e, fun c m n => by
    rcases List.mem_append.mp m with m | m
    · exact absurd m n
    · rw [List.mem_singleton.mp m]; exact ha, fun a o e n => ⟨o, k a o (by simpa using n) e⟩⟩
  have hb : b.get? a = none := by
    cases e : b.get? a with
    | none => rfl
    | some x => rw [R.stays a x e] at ha; cases ha
  have q : Soft st.heap [env.locals] := fun a hm => R.soft a (xs_one a hm)
  exact ⟨rfl, rfl, x.mono xs_one, R.outerL hn hh hn' x (R.led.push x q (fun c hm o => k c o (led_ne R hm)) ha hb (ho x)) rfl⟩
theorem fresh_of {D : Addr} {L : Addr} (hL : D ≠ L) (hb : b.get? D = none) (lt : ∀ p ∈ allNews b L h, p.1 < D) : h.get? D = none := by
  cases e : h.get? D with
  | none => rfl
  | some o => exact absurd (lt _ (mem_allNews e hL hb)) (Nat.lt_irrefl _)
/-- the news without one object, that one ahead -/
noncomputable def newsBut (b : Heap) (L D : Addr) (h : Heap) : List (Addr × Obj) := (allNews b L h).filter (fun p => p.1 != D)
theorem newsBut_ok {D L : Addr} {o : Obj} (e : h.get? D = some o) (n : D ≠ L) (hb : b.get? D = none) : News b L h ((D, o) :: newsBut b L D h) := fun p hp => by
  rcases List.mem_cons.mp hp with rfl | hp
  · exact ⟨e, n, hb⟩
  · exact allNews_ok p (List.mem_filter.mp hp).1
theorem newsBut_ne {D L : Addr} : ∀ p ∈ newsBut b L D h, p.1 ≠ D := fun p hp => by simpa using (List.mem_filter.mp hp).2
theorem but_kept {L D : Addr} {m' : Str → Option Value} {news : List (Addr × Obj)} (F : Fr b L h m) (F' : Fr b L h' m') (N' : News b L h' news) (sub : ∀ p ∈ newsBut b L D h, p ∈ news) :
    ∀ a o, a ≠ D → a ≠ L → h.get? a = some o → h'.get? a = some o := fun a o nd n e => by
  cases q : b.get? a with
  | some o' =>
    have := F.keep a o' q
    rw [e] at this; cases this
    exact F'.keep a o q
  | none => exact (N' _ (sub _ (List.mem_filter.mpr ⟨mem_allNews e n q, by simpa using nd⟩))).1
theorem Mid.setL {tk : Nat} {a : Addr} {o : SO} {i : Nat} (R : Rel prog w b env ρ s st.heap) (hn : st.heap.Ns env.locals m) (hh : ∀ x sv, get s.loc x = some sv → Holds env st.heap ρ m x sv) (hn' : h'.Ns env.locals m)
    (ea : atN ρ i = some a) (k : ∀ c o, c ≠ a → c ≠ env.locals → st.heap.get? c = some o → h'.get? c = some o) (ho : Ext [env.locals] ρ st.heap ρ h' → Lay prog w h' ρ o a) (hl : ∃ o, h'.get? a = some o) :
    Mid prog w b env ρ st ρ { s with led := setN s.led i o } { st with heap := h', toks := tk } := by
  have x : Ext [env.locals] ρ st.heap ρ h' := ⟨fun _ _ e => e, fun c o e n nr => k c o (fun q => nr (q ▸ atN_mem ea)) (by simpa using n) e, fun c m n => absurd m n, fun c o e n => by
    by_cases q : c = a
    · subst q; exact hl
    · exact ⟨o, k c o q (by simpa using n) e⟩⟩
  have q : Soft st.heap [env.locals] := fun a hm => R.soft a (xs_one a hm)
  exact ⟨rfl, rfl, x.mono xs_one, R.outerL hn hh hn' x (R.led.set x q ea (fun c hm n o => k c o n (led_ne R hm)) (ho x)) rfl⟩
end
section
variable {prog : Program} {w : World} {b : Heap} {env : Env} {A : Around} {ρ : List Addr} {s : St} {st : Shared} {C : Cfg}
theorem list_at {i : Nat} {v : Value} {l : SL} (R : Rel prog w b env ρ s st.heap) (d : Den st.heap ρ (.own i) v) (e : itemOf s.led i = some l) :
    ∃ a vs n, v = .ref a ∧ atN ρ i = some a ∧ st.heap.get? a = some (PySem.W.listOf (List.toArray vs) n) ∧ Dens st.heap ρ l.den vs := by
  cases d with
  | own ea =>
    unfold itemOf at e
    cases q : atN s.led i with
    | none => rw [q] at e; cases e
    | some o =>
      rw [q] at e
      cases o <;> first | (cases e; done) | skip
      cases e
      cases R.led.lay i _ _ ea q with
      | list h d => exact ⟨_, _, _, rfl, ea, h, d⟩
theorem isList_of {h : Heap} {a : Addr} {vs : List Value} {n : Nat} (e : h.get? a = some (PySem.W.listOf (List.toArray vs) n)) : h.IsList a (List.toArray vs) := ⟨_, e, rfl, _, rfl⟩
theorem smallL_len {l : SL} (h : smallL l) : l.len ≤ 1000 := by
  cases l <;> first | exact h | skip
  rename_i l
  unfold smallL at h
  try dsimp only at h
  cases q : Nat.ble l.length 1000 with
  | true => exact Nat.le_of_ble_eq_true q
  | false => rw [q] at h; exact h.elim
theorem flat_rep (v : Value) : ∀ n, (List.replicate n [v]).flatten = List.replicate n v
  | 0 => rfl
  | n + 1 => by rw [List.replicate_succ, List.flatten_cons, flat_rep v n]; rfl
theorem rep_den (n : Int) (x : SV) : (repOf n x).den = List.replicate n.toNat x := by cases x <;> first | exact List.map_replicate | rfl
theorem binop_ok {lv : Nat} {op : Operator} {x y : SV} {v u : Value} {K : KV} (S : Sta prog w b) (hA : AOk lv A) (R : Rel prog w b env ρ s st.heap) (dx : Den st.heap ρ x v) (dy : Den st.heap ρ y u) (h : binop op x y s K) :
    wpAny (model prog w) A (binaryOp op v u) (Post prog w b env ρ st K) F0 st := by
  cases x <;> first | exact False.elim h | (unfold binop at h; try dsimp only at h)
  · rename_i i
    cases y <;> first | exact h.elim | skip
    rename_i j
    cases dx; cases dy
    refine wpAny_mono (intOp_ok S hA R h) (fun v s' hv => ?_) fun _ _ e => e
    obtain ⟨ρ', sv, s₁, mid, d, rfl, k, rfl, hk⟩ := hv
    exact ⟨ρ', _, _, mid, d, hk⟩
  · rename_i i
    cases y <;> first | exact h.elim | skip
    · rename_i n
      try dsimp only at h
      cases op <;> first | exact h.elim | skip
      try dsimp only at h
      split at h <;> first | exact h.elim | skip
      rename_i l x e
      obtain ⟨hn, h⟩ := h
      obtain ⟨a, vs, k, rfl, ea, hg, d⟩ := list_at R dx e
      cases dy with
      | int _ t =>
        obtain ⟨m, F, hh⟩ := R.fr
        cases d with
        | cons d0 d1 =>
          cases d1
          rename_i v0
          refine PySem.W.KMa.mul (ws := List.replicate n.toNat v0) F allNews_ok (isList_of hg) (by omega) (by omega) (by simp only [List.length_cons, List.length_nil]; omega) (flat_rep v0 _) fun D h' F' N' lt => ?_
          have hD := N' (D, _) List.mem_cons_self
          have fr := fresh_of hD.2.1 hD.2.2 lt
          have mid := Mid.newL (tk := st.toks) (a := D) (o := .list (repOf n x)) R F.ns hh F'.ns (all_kept F F' N' fun p hp => List.mem_cons_of_mem _ hp) fr fun x' => .list hD.1 (by rw [rep_den]; exact (Dens.replicate d0 _).ext x' fun a hm => R.soft a (xs_one a hm))
          exact ⟨_, _, _, mid, den_new R.led, h⟩
    · rename_i j
      try dsimp only at h
      cases op <;> first | exact h.elim | skip
      try dsimp only at h
      split at h <;> first | exact h.elim | skip
      rename_i l1 l e1
      split at h <;> first | exact h.elim | skip
      rename_i l2 m' e2
      split at h <;> first | exact h.elim | skip
      rename_i hz
      have hz := Nat.le_of_ble_eq_true hz
      obtain ⟨a, vs, k, rfl, ea, hg, d⟩ := list_at R dx e1
      obtain ⟨a2, vs2, k2, rfl, ea2, hg2, d2⟩ := list_at R dy e2
      obtain ⟨m, F, hh⟩ := R.fr
      have z1 := d.length
      have z2 := d2.length
      refine PySem.W.kmk_add_lit (zs := vs ++ vs2) F allNews_ok (isList_of hg) (isList_of hg2) (by simp) (fun D h' F' N' lt => ?_) ?_
      · have hD := N' (D, _) List.mem_cons_self
        have fr := fresh_of hD.2.1 hD.2.2 lt
        have mid := Mid.newL (tk := st.toks) (a := D) (o := .list (.lit (l ++ m'))) R F.ns hh F'.ns (all_kept F F' N' fun p hp => List.mem_cons_of_mem _ hp) fr fun x' => .list hD.1 ((d.append d2).ext x' fun a hm => R.soft a (xs_one a hm))
        exact ⟨_, _, _, mid, den_new R.led, h⟩
      · simp only [List.toList_toArray, z1, z2, SL.den, sizeLine] at *; omega
end
section
variable {prog : Program} {w : World} {b : Heap} {env : Env} {A : Around} {ρ : List Addr} {s : St} {st : Shared} {C : Cfg}
theorem beq_dec (i j : Int) : (i == j) = decide (i = j) := by by_cases h : i = j <;> simp [h]
theorem bne_dec (i j : Int) : (i != j) = !decide (i = j) := by by_cases h : i = j <;> simp [h]
theorem anyStr_any (x : Str) : ∀ ys : List Str, anyStr ys x = ys.any (· == x)
  | [] => rfl
  | y :: r => by
    unfold anyStr
    rw [List.any_cons, strEq_beq]
    cases strEq y x with
    | true => rfl
    | false => simpa using anyStr_any x r
theorem strsOf_den {h : Heap} : ∀ {l : List SV} {ys : List Str} {vs : List Value}, strsOf l = some ys → Dens h ρ l vs → StrsAre vs ys
  | [], _, _, e, .nil => by cases e; exact .nil
  | v :: r, ys, _, e, .cons a c => by
    unfold strsOf at e
    cases v <;> first | (cases e; done) | skip
    rename_i x
    try dsimp only at e
    cases q : strsOf r with
    | none => rw [q] at e; cases e
    | some l => rw [q] at e; cases e; cases a; exact .cons _ _ (strsOf_den q c)
theorem elemD_reads {h : Heap} {v : SV} {u : Value} {d : PyData} (e : elemD v = some d) (x : Den h ρ v u) : Reads h u d [] := by
  cases v <;> first | (cases e; done) | skip
  all_goals (cases e; cases x; constructor)
theorem elemsD_reads {h : Heap} : ∀ {l : List SV} {us : List Value} {ds : List PyData}, elemsD l = some ds → Dens h ρ l us → ∃ as, ReadsAll h us ds as
  | [], _, _, e, .nil => by cases e; exact ⟨_, .nil⟩
  | v :: r, _, _, e, .cons a c => by
    unfold elemsD at e
    cases q : elemD v with
    | none => rw [q] at e; cases e
    | some d =>
      rw [q] at e; dsimp only at e
      cases q2 : elemsD r with
      | none => rw [q2] at e; cases e
      | some l =>
        rw [q2] at e; cases e
        obtain ⟨as, z⟩ := elemsD_reads q2 c
        exact ⟨_, .cons (elemD_reads q a) z⟩
theorem itemD_reads {h : Heap} {v : SV} {u : Value} {d : PyData} (e : itemD v = some d) (x : Den h ρ v u) : ∃ as, Reads h u d as := by
  unfold itemD at e
  split at e
  · rename_i l
    cases q : elemsD l with
    | none => rw [q] at e; cases e
    | some ds =>
      rw [q] at e; cases e
      cases x with
      | tup it _ dd =>
        obtain ⟨o, ho, hc, n, hd⟩ := it
        obtain ⟨as, z⟩ := elemsD_reads q dd
        exact ⟨_, reads_tuple_at ho hc hd z⟩
  · exact ⟨_, elemD_reads e x⟩
theorem itemsD_reads {h : Heap} : ∀ {l : List SV} {us : List Value} {ds : List PyData}, itemsD l = some ds → Dens h ρ l us → ∃ as, ReadsAll h us ds as
  | [], _, _, e, .nil => by cases e; exact ⟨_, .nil⟩
  | v :: r, _, _, e, .cons a c => by
    unfold itemsD at e
    cases q : itemD v with
    | none => rw [q] at e; cases e
    | some d =>
      rw [q] at e; dsimp only at e
      cases q2 : itemsD r with
      | none => rw [q2] at e; cases e
      | some l =>
        rw [q2] at e; cases e
        obtain ⟨as, z⟩ := itemsD_reads q2 c
        obtain ⟨as', z'⟩ := itemD_reads q a
        exact ⟨_, .cons z' z⟩
theorem valD_reads {v : SV} {u : Value} {d : PyData} (R : Rel prog w b env ρ s st.heap) (e : valD s.led v = some d) (x : Den st.heap ρ v u) : ∃ as, Reads st.heap u d as := by
  unfold valD at e
  split at e
  · rename_i i
    split at e <;> first | (cases e; done) | skip
    rename_i l q
    obtain ⟨a, vs, n, rfl, ea, hg, dd⟩ := list_at R x q
    cases q2 : itemsD l.den with
    | none => rw [q2] at e; cases e
    | some ds =>
      rw [q2] at e; cases e
      obtain ⟨as, z⟩ := itemsD_reads q2 dd
      exact ⟨_, reads_list_at hg rfl rfl z⟩
  · exact itemD_reads e x
theorem valsD_reads (R : Rel prog w b env ρ s st.heap) : ∀ {l : List SV} {us : List Value} {ds : List PyData}, valsD s.led l = some ds → Dens st.heap ρ l us → ∃ as, ReadsAll st.heap us ds as
  | [], _, _, e, .nil => by cases e; exact ⟨_, .nil⟩
  | v :: r, _, _, e, .cons a c => by
    unfold valsD at e
    cases q : valD s.led v with
    | none => rw [q] at e; cases e
    | some d =>
      rw [q] at e; dsimp only at e
      cases q2 : valsD s.led r with
      | none => rw [q2] at e; cases e
      | some l =>
        rw [q2] at e; cases e
        obtain ⟨as, z⟩ := valsD_reads R q2 c
        obtain ⟨as', z'⟩ := valD_reads R q a
        exact ⟨_, .cons z' z⟩
/-- what a comparison hands back: a bool and nothing turned -/
noncomputable abbrev CmpQ (prog : Program) (w : World) (b : Heap) (env : Env) (ρ : List Addr) (s : St) (st : Shared) (K : Bool → Prop) (v : Value) (st' : Shared) : Prop := ∃ c, v = .bool c ∧ K c ∧ Mid prog w b env ρ st ρ s st'
theorem notNone_den {v : SV} {u : Value} (x : Den st.heap ρ v u) (hp : isPrim v = false) : (u == Value.none) = !notNone v := by
  cases x <;> first | rfl | (simp [notNone]; done) | cases hp
theorem cmpOrd_of {op : CmpOp} {x y : SV} {K : Bool → Prop} (h : cmpOrd op x y K) : ∃ i j, x = .int i ∧ y = .int j := by
  cases x <;> first | exact False.elim h | skip
  cases y <;> first | exact False.elim h | exact ⟨_, _, rfl, rfl⟩
theorem cmpNe_of {led : List SO} {x y : SV} {K : Bool → Prop} (h : cmpNe led x y K) : ∃ i j, x = .int i ∧ y = .int j := by
  cases x <;> first | exact False.elim h | skip
  cases y <;> first | exact False.elim h | exact ⟨_, _, rfl, rfl⟩
theorem Den.int_of {h : Heap} {ρ : List Addr} {i : Int} {v : Value} (d : Den h ρ (.int i) v) : ∃ t, v = .int i t := by
  cases d; exact ⟨_, rfl⟩
theorem Den.str_of {h : Heap} {ρ : List Addr} {i : Str} {v : Value} (d : Den h ρ (.str i) v) : ∃ t, v = .str i t := by
  cases d; exact ⟨_, rfl⟩
theorem Den.none_of {h : Heap} {ρ : List Addr} {v : Value} (d : Den h ρ .none v) : v = .none := by
  cases d; rfl
theorem Den.own_of {h : Heap} {ρ : List Addr} {i : Nat} {v : Value} (d : Den h ρ (.own i) v) : ∃ a, v = .ref a ∧ atN ρ i = some a := by
  cases d with
  | own e => exact ⟨_, rfl, e⟩
theorem Den.tup_of {h : Heap} {ρ : List Addr} {l : List SV} {v : Value} (d : Den h ρ (.tup l) v) : ∃ a vs, v = .ref a ∧ IsTup h a (List.toArray vs) ∧ a ∉ ρ ∧ Dens h ρ l vs := by
  cases d with
  | tup it n dd => exact ⟨_, _, rfl, it, n, dd⟩
inductive EqWay (led : List SO) (K : Bool → Prop) : SV → SV → Prop
  | nn : K true → EqWay led K .none .none
  | ni {i} : K false → EqWay led K .none (.int i)
  | xn {i} : K false → EqWay led K (.int i) .none
  | ii {i j} : K (decide (i = j)) → EqWay led K (.int i) (.int j)
  | ss {x y} : K (strEq x y) → EqWay led K (.str x) (.str y)
  | tt {l m x y} : valsD led l = some x → valsD led m = some y → PySem.SeqAt.shaped (.tuple x) = true → PySem.SeqAt.shaped (.tuple y) = true → K (PyData.eqv (.tuple x) (.tuple y)) → EqWay led K (.tup l) (.tup m)
theorem cmpEq_of {led : List SO} {x y : SV} {K : Bool → Prop} (h : cmpEq led x y K) : EqWay led K x y := by
  cases x <;> first | exact False.elim h | skip
  · cases y <;> first | exact False.elim h | exact .nn h | exact .ni h
  · cases y <;> first | exact False.elim h | exact .xn h | exact .ii h
  · cases y <;> first | exact False.elim h | exact .ss h
  · cases y <;> first | exact False.elim h | skip
    obtain ⟨da, db, ⟨qa, qb⟩, ⟨sa, sb⟩, h⟩ := h
    exact .tt qa qb sa sb h
theorem cmpIs_of {x y : SV} {K : Bool → Prop} (h : cmpIs x y K) : y = .none ∧ isPrim x = false ∧ K (!notNone x) := by
  cases y <;> first | exact False.elim h | skip
  unfold cmpIs at h
  cases hp : isPrim x with
  | true => rw [hp] at h; exact h.elim
  | false => rw [hp] at h; exact ⟨rfl, rfl, h⟩
theorem cmpIsNot_of {x y : SV} {K : Bool → Prop} (h : cmpIsNot x y K) : y = .none ∧ isPrim x = false ∧ K (notNone x) := by
  cases y <;> first | exact False.elim h | skip
  unfold cmpIsNot at h
  cases hp : isPrim x with
  | true => rw [hp] at h; exact h.elim
  | false => rw [hp] at h; exact ⟨rfl, rfl, h⟩
theorem cmpNotIn_of {led : List SO} {x y : SV} {K : Bool → Prop} (h : cmp .NotIn led x y K) : ∃ l, y = .tup l ∧ cmpIn led x y fun c => K (!c) := by
  cases y <;> first | exact False.elim h | exact ⟨_, rfl, h⟩
theorem cmp_ok {lv : Nat} {op : CmpOp} {x y : SV} {v u : Value} {K : Bool → Prop} (hA : AOk lv A) (R : Rel prog w b env ρ s st.heap) (dx : Den st.heap ρ x v) (dy : Den st.heap ρ y u) (h : cmp op s.led x y K) :
    wpAny (model prog w) A (compareOp op v u) (CmpQ prog w b env ρ s st K) F0 st := by
  have fin : ∀ c, K c → CmpQ prog w b env ρ s st K (.bool c) st := fun c hc => ⟨c, rfl, hc, .refl R⟩
  have hin : ∀ (K' : Bool → Prop), cmpIn s.led x y K' → ∃ k t ys a, v = .str k t ∧ u = .ref a ∧ K' (ys.any (· == k)) ∧ ((∃ vs, IsTup st.heap a (List.toArray vs) ∧ StrsAre vs ys) ∨ (∃ vs, st.heap.IsList a (List.toArray vs) ∧ StrsAre vs ys)) := fun K' h' => by
    cases x <;> first | exact False.elim h' | (unfold cmpIn at h'; try dsimp only at h')
    rename_i k
    cases dx
    rename_i t
    try dsimp only at h'
    cases y <;> first | exact h'.elim | skip
    · rename_i l
      try dsimp only at h'
      cases q : strsOf l with
      | none => rw [q] at h'; exact h'.elim
      | some ys =>
        rw [q] at h'
        cases dy with
        | tup it _ dd => exact ⟨k, t, ys, _, rfl, rfl, anyStr_any k ys ▸ h', .inl ⟨_, it, strsOf_den q dd⟩⟩
    · rename_i j
      try dsimp only at h'
      split at h' <;> first | exact h'.elim | skip
      rename_i l q0
      cases q : strsOf l with
      | none => rw [q] at h'; exact h'.elim
      | some ys =>
        rw [q] at h'
        obtain ⟨a, vs, n, rfl, ea, hg, dd⟩ := list_at R dy q0
        exact ⟨k, t, ys, _, rfl, rfl, anyStr_any k ys ▸ h', .inr ⟨_, isList_of hg, strsOf_den q dd⟩⟩
  cases op
  · -- Eq
    cases cmpEq_of h with
    | nn h => obtain rfl := dx.none_of; obtain rfl := dy.none_of; exact PySem.EqNone.eq_none_none (fin _ h)
    | ni h => obtain rfl := dx.none_of; obtain ⟨_, rfl⟩ := dy.int_of; exact PySem.EqNone.eq_none_int (fin _ h)
    | xn h => obtain ⟨_, rfl⟩ := dx.int_of; obtain rfl := dy.none_of; exact PySem.EqNone.eq_int_none (fin _ h)
    | ii h => obtain ⟨_, rfl⟩ := dx.int_of; obtain ⟨_, rfl⟩ := dy.int_of; exact eq_int (fin _ (by rw [beq_dec]; exact h))
    | ss h => obtain ⟨_, rfl⟩ := dx.str_of; obtain ⟨_, rfl⟩ := dy.str_of; exact eq_str (fin _ (by rw [strEq_beq]; exact h))
    | tt qa qb sa sb hk =>
      obtain ⟨_, _, rfl, ⟨o, ho, hc, n, hd⟩, _, dd⟩ := dx.tup_of
      obtain ⟨_, _, rfl, ⟨o2, ho2, hc2, n2, hd2⟩, _, dd2⟩ := dy.tup_of
      obtain ⟨as, z⟩ := valsD_reads R qa dd
      obtain ⟨as2, z2⟩ := valsD_reads R qb dd2
      exact eq_dataH (reads_tuple_at ho hc hd z) (reads_tuple_at ho2 hc2 hd2 z2) sa sb (by have := hA.2.2.1; omega) (fin _ hk)
  · -- NotEq
    obtain ⟨i, j, rfl, rfl⟩ := cmpNe_of (led := s.led) h
    obtain ⟨_, rfl⟩ := dx.int_of; obtain ⟨_, rfl⟩ := dy.int_of
    exact ne_int (fin _ (by rw [bne_dec]; exact h))
  · obtain ⟨i, j, rfl, rfl⟩ := cmpOrd_of (op := .Lt) h
    obtain ⟨_, rfl⟩ := dx.int_of; obtain ⟨_, rfl⟩ := dy.int_of
    exact lt_int (fin _ h)
  · obtain ⟨i, j, rfl, rfl⟩ := cmpOrd_of (op := .LtE) h
    obtain ⟨_, rfl⟩ := dx.int_of; obtain ⟨_, rfl⟩ := dy.int_of
    exact le_int (fin _ h)
  · obtain ⟨i, j, rfl, rfl⟩ := cmpOrd_of (op := .Gt) h
    obtain ⟨_, rfl⟩ := dx.int_of; obtain ⟨_, rfl⟩ := dy.int_of
    exact gt_int (fin _ h)
  · obtain ⟨i, j, rfl, rfl⟩ := cmpOrd_of (op := .GtE) h
    obtain ⟨_, rfl⟩ := dx.int_of; obtain ⟨_, rfl⟩ := dy.int_of
    exact ge_int (fin _ h)
  · -- Is
    obtain ⟨rfl, hp, h⟩ := cmpIs_of h
    obtain rfl := dy.none_of
    exact is_none_gen (fin _ (by rw [notNone_den dx hp]; exact h))
  · obtain ⟨rfl, hp, h⟩ := cmpIsNot_of h
    obtain rfl := dy.none_of
    exact isnot_none_gen (fin _ (by rw [notNone_den dx hp, Bool.not_not]; exact h))
  · obtain ⟨k, t, ys, a, rfl, rfl, hk, ⟨vs, it, q⟩ | ⟨vs, il, q⟩⟩ := hin K h
    · exact in_tuple_strs it q (fin _ hk)
    · exact in_list_strs il q (fin _ hk)
  · obtain ⟨_, rfl, h⟩ := cmpNotIn_of h
    obtain ⟨k, t, ys, a, rfl, rfl, hk, ⟨vs, it, q⟩ | ⟨vs, il, q⟩⟩ := hin (fun c => K (!c)) h
    · exact notin_tuple_strs it q (fin _ hk)
    · cases dy with
      | tup it _ _ =>
        obtain ⟨o, e, c, _⟩ := il
        obtain ⟨o', e', c', _⟩ := it
        rw [e] at e'; cases e'; rw [c] at c'; simp at c'
end
section
variable {prog : Program} {w : World} {b : Heap} {env : Env} {A : Around} {ρ : List Addr} {s : St} {st : Shared} {C : Cfg}
theorem truth_ok {v : SV} {u : Value} {K : Bool → Prop} (R : Rel prog w b env ρ s st.heap) (d : Den st.heap ρ v u) (h : truthW v s K) :
    wpAny (model prog w) A (truthy u) (fun c st' => K c ∧ Mid prog w b env ρ st ρ s st') F0 st := by
  cases v <;> first | exact False.elim h | (unfold truthW at h; try dsimp only at h)
  · cases d; exact truthy_none ⟨h, .refl R⟩
  · cases d; exact wpAny_truthy_bool ⟨h, .refl R⟩
  · cases d; exact PyProof.Rows.truthy_int ⟨by rw [bne_dec]; exact h, .refl R⟩
  · try dsimp only at h
    split at h <;> first | exact h.elim | skip
    rename_i i l q
    obtain ⟨a, vs, n, rfl, ea, hg, dd⟩ := list_at R d q
    have hz := smallL_len h.1
    have hl := dd.length
    rw [SL.len_den] at hl
    refine wpAny_truthy_list (isList_of hg) (by simp; omega) ⟨?_, .toks R _⟩
    have : (!(List.toArray vs).isEmpty) = decide (0 < l.len) := by
      rw [← hl]
      cases vs <;> simp
    rw [this]; exact h.2
theorem subscripted_plain {e : Expr} {o i : Value} (h : isSlice e = false) : subscripted e false o i = operate [o, i] (getItem o i) := by
  cases e <;> first | rfl | cases h
theorem getD_at {α : Type} {f : α → SV} {xs : List α} {i : Nat} {d : α} (h : i < xs.length) : atN (xs.map f) i = some (f (xs.getD i d)) := by
  rw [atN_eq, List.getElem?_map, List.getElem?_eq_getElem h]
  simp [List.getD, h]
/-- an item of a list of the ledger -/
theorem item_ok {l : SL} {a : Addr} {vs : List Value} {n : Nat} {k : Int} {t : Tok} {K : SV → Prop} (hg : st.heap.get? a = some (PySem.W.listOf (List.toArray vs) n)) (d : Dens st.heap ρ l.den vs) (h : itemAt l k K) :
    ∃ x v, vs[k.toNat]? = some v ∧ Den st.heap ρ x v ∧ K x ∧ 0 ≤ k ∧ k < 1000 := by
  cases l <;> first | exact False.elim h | (unfold itemAt at h; try dsimp only at h)
  · obtain ⟨h0, h1, x, e, hk⟩ := h
    obtain ⟨v, ev, dv⟩ := d.at e
    exact ⟨x, v, ev, dv, hk, h0, h1⟩
  · obtain ⟨⟨h0, h1, h2⟩, hk⟩ := h
    obtain ⟨v, ev, dv⟩ := d.at (i := k.toNat) (getD_at (d := 0) (by omega))
    exact ⟨_, v, ev, dv, hk, h0, h2⟩
  · obtain ⟨⟨h0, h1, h2⟩, hk⟩ := h
    obtain ⟨v, ev, dv⟩ := d.at (i := k.toNat) (getD_at (d := (0, 0)) (by omega))
    exact ⟨_, v, ev, dv, hk, h0, h2⟩
theorem getItem_list_ok {l : SL} {i : Nat} {u : Value} {k : Int} {t : Tok} {K : KV} (R : Rel prog w b env ρ s st.heap) (d : Den st.heap ρ (.own i) u) (q : itemOf s.led i = some l) (h : itemAt l k fun x => K x s) :
    wpAny (model prog w) A (getItem u (.int k t)) (Post prog w b env ρ st K) F0 st := by
  obtain ⟨a, vs, n, rfl, ea, hg, dd⟩ := list_at R d q
  obtain ⟨x, v, ev, dv, hk, h0, h1⟩ := item_ok (t := t) hg dd h
  exact wpAny_getItem_list (isList_of hg) h0 (by omega) (by simpa using ev) ⟨ρ, x, s, .refl R, dv, hk⟩
theorem list_typeIs {a : Addr} {vs : List Value} {n : Nat} (hg : st.heap.get? a = some (PySem.W.listOf (List.toArray vs) n)) : st.TypeIs (.ref a) "list" := ⟨_, hg, rfl⟩
theorem atLit_ok {value e : Expr} {v : SV} {u : Value} {k : Nat} {t : Tok} {K : KV} (R : Rel prog w b env ρ s st.heap) (d : Den st.heap ρ v u) (he : isSlice e = false) (h : atLit v k s K) :
    wpAny (model prog w) A (subscriptTail value e u (.int k t)) (Post prog w b env ρ st K) F0 st := by
  cases v <;> first | exact False.elim h | (unfold atLit at h; try dsimp only at h)
  · rename_i l
    replace h : itemLit (.lit l) k fun x => K x s := h
    unfold itemLit at h
    try dsimp only at h
    split at h <;> first | exact h.elim | skip
    rename_i hz
    have hz := Nat.le_of_ble_eq_true hz
    split at h <;> first | exact h.elim | skip
    rename_i x e1
    cases d with
    | tup it n dd =>
      obtain ⟨v, ev, dv⟩ := dd.at e1
      have hlt := (List.getElem?_eq_some_iff.mp ev).1
      refine tail_any it.typeIs PyProof.Rows.slot_tuple_getitem.lookup (getItem_tuple it (j := k) (by omega) (by omega) ?_ (by simpa using ev) ⟨ρ, x, s, .refl R, dv, h⟩) (subscripted_plain he)
      have h0 : ¬ ((k : Int) < 0) := by omega
      simp [seqIndex?, h0, hlt]
  · rename_i i
    try dsimp only at h
    split at h <;> first | exact h.elim | skip
    rename_i l q
    obtain ⟨a, vs, n, rfl, ea, hg, dd⟩ := list_at R d q
    have key : ∀ x v, vs[k]? = some v → Den st.heap ρ x v → K x s → k < 1000000 → wpAny (model prog w) A (subscriptTail value e (.ref a) (.int k t)) (Post prog w b env ρ st K) F0 st := fun x v ev dv hk hz =>
      tail_any (list_typeIs hg) PySem.slot_list_getitem.lookup (wpAny_getItem_list (isList_of hg) (by omega) (by omega) (by simpa using ev) ⟨ρ, x, s, .refl R, dv, hk⟩) (subscripted_plain he)
    have gen : ∀ l', itemAt l' (k : Int) (fun x => K x s) → Dens st.heap ρ l'.den vs → wpAny (model prog w) A (subscriptTail value e (.ref a) (.int k t)) (Post prog w b env ρ st K) F0 st := fun l' h' dd' => by
      obtain ⟨x, v, ev, dv, hk, h0, h1⟩ := item_ok (t := t) hg dd' h'
      exact key x v (by simpa using ev) dv hk (by omega)
    cases l <;> first | exact gen _ h dd | skip
    try dsimp only at h
    unfold itemLit at h
    try dsimp only at h
    split at h <;> first | exact h.elim | skip
    rename_i hz
    have hz := Nat.le_of_ble_eq_true hz
    split at h <;> first | exact h.elim | skip
    rename_i x e1
    obtain ⟨v, ev, dv⟩ := dd.at e1
    exact key x v ev dv h (by omega)
theorem sdict_at {i : Nat} {u : Value} {l : List (Str × SV)} (R : Rel prog w b env ρ s st.heap) (d : Den st.heap ρ (.own i) u) (e : atN s.led i = some (.sdict l)) :
    ∃ a o kvs, u = .ref a ∧ atN ρ i = some a ∧ st.heap.get? a = some o ∧ o.IsDictOf (PySem.strKind prog w) kvs ∧ Kvs st.heap ρ l kvs ∧ (a == sysModules) = false := by
  cases d with
  | own ea =>
    cases R.led.lay i _ _ ea e with
    | sdict h1 h2 h3 h4 => exact ⟨_, _, _, rfl, ea, h1, h2, h3, h4⟩
theorem Kvs.value {h : Heap} {k : Str} : ∀ {l : List (Str × SV)} {kvs : List (Str × Value)}, Kvs h ρ l kvs → match get l k with
    | some x => ∃ v, valueAt kvs k = some v ∧ Den h ρ x v
    | none => valueAt kvs k = none
  | _, _, .nil => rfl
  | _, _, .cons (x := y) (s := x) (l := l) (v := v) (kvs := kvs) a c => by
    unfold get
    have ih := Kvs.value (k := k) c
    cases q : strEq y k with
    | true =>
      refine ⟨v, ?_, a⟩
      rw [strEq_iff.mp q]
      simp [valueAt]
    | false =>
      have : valueAt ((y, v) :: kvs) k = valueAt kvs k := by
        have n := strEq_ne q
        simp [valueAt, n, Ne.symm n]
      rw [this]; exact ih
theorem atW_ok {value e : Expr} {v iv : SV} {u i : Value} {K : KV} (R : Rel prog w b env ρ s st.heap) (d : Den st.heap ρ v u) (di : Den st.heap ρ iv i) (he : isSlice e = false) (h : atW v iv s K) :
    wpAny (model prog w) A (subscriptTail value e u i) (Post prog w b env ρ st K) F0 st := by
  cases iv <;> first | exact False.elim h | (unfold atW at h; try dsimp only at h)
  · cases v <;> first | exact h.elim | skip
    try dsimp only at h
    split at h <;> first | exact h.elim | skip
    rename_i l q
    cases di
    obtain ⟨a, vs, n, rfl, ea, hg, dd⟩ := list_at R d q
    exact tail_any (list_typeIs hg) PySem.slot_list_getitem.lookup (getItem_list_ok R d q h) (subscripted_plain he)
  · rename_i k
    cases v <;> first | exact h.elim | skip
    try dsimp only at h
    split at h <;> first | exact h.elim | skip
    rename_i o q
    cases o <;> first | exact h.elim | skip
    rename_i l
    try dsimp only at h
    split at h <;> first | exact h.elim | skip
    rename_i x ex
    cases di with
    | str _ t =>
      obtain ⟨a, o, kvs, rfl, ea, hg, hd, hk, _⟩ := sdict_at R d q
      have kv := Kvs.value (k := k) hk
      rw [ex] at kv
      obtain ⟨v, hv, dv⟩ := kv
      have hm := mem_allNews hg (led_ne R (atN_mem ea)) (e0_get _)
      exact PySem.W.kdt_tail allNews_ok hm hd (PySem.W.kdt_getItem allNews_ok hm hd (strKind_is _ _ _ _) hv ⟨ρ, x, s, .toks R _, dv, h⟩) (subscripted_plain he)
end
section
variable {prog : Program} {w : World} {b : Heap} {env : Env} {A : Around} {ρ : List Addr} {s : St} {st : Shared} {C : Cfg}
theorem litIdx_eq {e : Expr} {k : Nat} (h : litIdx e = some k) : ∃ n p, e = .Constant (.int (Int.ofNat k)) n p := by
  cases e <;> first | (cases h; done) | skip
  rename_i c n p
  cases c <;> first | (cases h; done) | skip
  rename_i i
  cases i <;> first | (cases h; done) | skip
  cases h; exact ⟨n, p, rfl⟩
/-- a written part of a slice: none or an int -/
theorem part_ok {o : Option Expr} {k : Option Nat} {Q : Value → Shared → Prop} (h : optLit o = some k) (hq : ∀ v tk, IsPart v (k.map Int.ofNat) → Q v { st with toks := tk }) : wpAny (model prog w) A (evalPart o env) Q F0 st := by
  cases o with
  | none => cases h; exact evalPart_none_step (hq _ _ .none)
  | some e =>
    unfold optLit at h
    try dsimp only at h
    cases q : litIdx e with
    | none => rw [q] at h; cases h
    | some n =>
      rw [q] at h; cases h
      obtain ⟨m, p, rfl⟩ := litIdx_eq q
      exact evalPart_some_step (wpAny_Constant_int (hq _ _ (.int _ _)))
theorem pick_hi {l : List Value} (k : Nat) : PySem.W.kms_pick l none (some (Int.ofNat k)) = l.take k := by
  have h : ¬ ((k : Int) < 0) := by omega
  simp only [PySem.W.kms_pick, PySem.W.kms_lo, PySem.W.kms_hi, Int.ofNat_eq_natCast, if_neg h, List.drop_zero, Nat.sub_zero, Int.toNat_natCast]
  rw [List.take_eq_take_iff]; omega
theorem pick_lo {l : List Value} (k : Nat) : PySem.W.kms_pick l (some (Int.ofNat k)) none = l.drop k := by
  have h : ¬ ((k : Int) < 0) := by omega
  simp only [PySem.W.kms_pick, PySem.W.kms_lo, PySem.W.kms_hi, Int.ofNat_eq_natCast, if_neg h, Int.toNat_natCast]
  by_cases q : k ≤ l.length
  · rw [Nat.min_eq_left q, List.take_of_length_le (by simp)]
  · rw [Nat.min_eq_right (by omega), Nat.sub_self, List.take_zero, List.drop_of_length_le (by omega)]
theorem sliceOf_den {l : SL} {vs : List Value} {lo hi : Option Nat} {K : SL → Prop} (d : Dens st.heap ρ l.den vs) (h : sliceOf l lo hi K) :
    ∃ l', Dens st.heap ρ l'.den (PySem.W.kms_pick vs (lo.map Int.ofNat) (hi.map Int.ofNat)) ∧ K l' := by
  cases l <;> first | exact False.elim h | (unfold sliceOf at h; try dsimp only at h)
  · cases hi with
    | some k =>
      cases lo with
      | none => exact ⟨_, by rw [Option.map_none, Option.map_some, pick_hi]; exact d.take k, h⟩
      | some _ => exact h.elim
    | none =>
      cases lo with
      | none => exact h.elim
      | some k => exact ⟨_, by rw [Option.map_none, Option.map_some, pick_lo]; exact d.drop k, h⟩
  · cases hi with
    | none => exact h.elim
    | some k =>
      cases lo with
      | some _ => exact h.elim
      | none => exact ⟨_, by rw [Option.map_none, Option.map_some, pick_hi]; show Dens _ _ ((List.take k _).map SV.int) _; rw [List.map_take]; exact d.take k, h⟩
theorem slice_ok {value : Expr} {lo hi : Option Expr} {p : Pos} {v : SV} {u : Value} {K : KV} (R : Rel prog w b env ρ s st.heap) (d : Den st.heap ρ v u) (HB : ∀ v xs, C.bl v xs → ∃ a vs, v = .ref a ∧ b.IsList a (List.toArray vs) ∧ IntsAre vs xs) (h : sliceW C.bl (isName value) v lo hi s K) :
    wpAny (model prog w) A (eval (.Slice lo hi none p) env) (fun i st₂ => wpAny (model prog w) A (subscriptTail value (.Slice lo hi none p) u i) (Post prog w b env ρ st K) F0 st₂) F0 st := by
  unfold sliceW at h
  cases hn : isName value with
  | false => rw [hn] at h; exact h.elim
  | true =>
    rw [hn] at h
    try dsimp only at h
    cases hlo : optLit lo with
    | none => rw [hlo] at h; exact h.elim
    | some lo' =>
      rw [hlo] at h; dsimp only at h
      cases hhi : optLit hi with
      | none => rw [hhi] at h; exact h.elim
      | some hi' =>
        rw [hhi] at h; dsimp only at h
        have key : ∀ (l : SL) (a : Addr) (vs : List Value), u = .ref a → st.heap.IsList a (List.toArray vs) → Dens st.heap ρ l.den vs → l.len ≤ 1000 → sliceOf l lo' hi' (fun l' => newObj (.list l') s K) →
            wpAny (model prog w) A (eval (.Slice lo hi none p) env) (fun i st₂ => wpAny (model prog w) A (subscriptTail value (.Slice lo hi none p) u i) (Post prog w b env ρ st K) F0 st₂) F0 st := by
          rintro l a vs rfl hl dd hz h
          obtain ⟨l', d', hk⟩ := sliceOf_den dd h
          have hlen := dd.length
          rw [SL.len_den] at hlen
          refine wpAny_Slice (part_ok hlo fun vl tk pl => part_ok hhi fun vu tk2 pu => evalPart_none_step ?_)
          obtain ⟨m, F, hh⟩ := R.fr
          refine PySem.W.kms_slice_lit (s := { st with toks := tk2 }) F allNews_ok hl pl pu rfl (fun D h' F' N' lt => ?_) rfl ?_ (by simp only [List.size_toArray, hlen, sizeLine]; omega)
          · have hD := N' (D, _) List.mem_cons_self
            have fr := fresh_of hD.2.1 hD.2.2 lt
            have mid := Mid.newL (tk := tk2) (a := D) (o := .list l') R F.ns hh F'.ns (all_kept F F' N' fun p hp => List.mem_cons_of_mem _ hp) fr fun x' => .list hD.1 (d'.ext x' fun a hm => R.soft a (xs_one a hm))
            exact ⟨_, _, _, mid, den_new R.led, hk⟩
          · intro r
            cases value <;> first | rfl | cases hn
        cases v <;> first | exact h.elim | skip
        · rename_i i
          try dsimp only at h
          split at h <;> first | exact h.elim | skip
          rename_i l q
          obtain ⟨a, vs, n, rfl, ea, hg, dd⟩ := list_at R d q
          exact key l a vs rfl (isList_of hg) dd (smallL_len h.1) h.2
        · rename_i z xs
          cases d
          obtain ⟨⟨hb, hz⟩, h⟩ := h
          obtain ⟨a, vs, rfl, ⟨o, eo, r⟩, ii⟩ := HB _ _ hb
          exact key (.ints xs) a vs rfl ⟨o, R.stays _ _ eo, r⟩ (Dens.ofInts ii) hz h
theorem attributeBase_plain {o : Expr} {attr : Str} {whole : Sem Value} (h : isCallE o = false) : attributeBase o attr env whole = whole := by
  cases o <;> first | rfl | cases h
/-- the three names of a Vector's own dict -/
theorem vec_facts {name : Str} (h : vecAttr name = true) : plainGet (heapK w.params) 220 name = true ∧ hasDictIn (heapK w.params) 220 = true ∧ findIn (heapK w.params) (.ref 220) name = some none ∧ takerIn (heapK w.params) 220 name = some none := by
  unfold vecAttr anyStr at h
  cases h1 : strEq "kind" name with
  | true => rw [← strEq_iff.mp h1]; exact ⟨by kernel_rfl, by kernel_rfl, by kernel_rfl, by kernel_rfl⟩
  | false =>
    rw [h1] at h; dsimp only at h; unfold anyStr at h
    cases h2 : strEq "items" name with
    | true => rw [← strEq_iff.mp h2]; exact ⟨by kernel_rfl, by kernel_rfl, by kernel_rfl, by kernel_rfl⟩
    | false =>
      rw [h2] at h; dsimp only at h; unfold anyStr at h
      cases h3 : strEq "attrs" name with
      | true => rw [← strEq_iff.mp h3]; exact ⟨by kernel_rfl, by kernel_rfl, by kernel_rfl, by kernel_rfl⟩
      | false =>
        rw [h3] at h; dsimp only at h; unfold anyStr at h
        cases h4 : strEq "shared" name with
        | true => rw [← strEq_iff.mp h4]; exact ⟨by kernel_rfl, by kernel_rfl, by kernel_rfl, by kernel_rfl⟩
        | false =>
          rw [h4] at h; dsimp only at h; unfold anyStr at h
          cases h5 : strEq "loose" name with
          | true => rw [← strEq_iff.mp h5]; exact ⟨by kernel_rfl, by kernel_rfl, by kernel_rfl, by kernel_rfl⟩
          | false => rw [h5] at h; cases h
theorem isStr_eq {x name : Str} {t : Tok} : (Value.str x t).isStr name = strEq x name := strEq_beq x name
theorem Ents.getL {h : Heap} {name : Str} {x : SV} : ∀ {l : List (Str × SV)} {es : List DictEntry}, Ents h ρ l es → get l name = some x → ∃ v, PySem.W.getL name es = some (some v) ∧ Den h ρ x v
  | _, _, .cons (x := y) (e := e) (es := es) hk a c, g => by
    unfold get at g
    unfold PySem.W.getL
    rw [List.find?_cons, hk, isStr_eq]
    cases q : strEq y name with
    | true =>
      rw [q] at g; cases g
      exact ⟨_, rfl, a⟩
    | false =>
      rw [q] at g; dsimp only at g
      obtain ⟨v, e1, d⟩ := Ents.getL c g
      refine ⟨v, ?_, d⟩
      unfold PySem.W.getL at e1
      dsimp only
      split at e1
      · rename_i z; rw [z]; exact e1
      · rename_i z; split at e1 <;> cases e1
theorem Ents.putE {h : Heap} {name : Str} {x : SV} {v : Value} {hsh : Int} {key : Value} (d : Den h ρ x v) : ∀ {l : List (Str × SV)} {es : List DictEntry}, Ents h ρ l es → (get l name).isSome = true → Ents h ρ (put l name x) (putL name hsh key v es) ∧ (putL name hsh key v es).length = es.length
  | _, _, .nil, g => by cases g
  | _, _, .cons (x := y) (s := z) (e := e) (es := es) hk a c, g => by
    unfold get at g
    unfold put putL
    rw [hk, isStr_eq]
    cases q : strEq y name with
    | true => exact ⟨.cons rfl d c, rfl⟩
    | false =>
      rw [q] at g; dsimp only at g
      obtain ⟨e1, e2⟩ := Ents.putE (hsh := hsh) (key := key) d c g
      exact ⟨.cons hk a e1, congrArg Nat.succ e2⟩
theorem Ents.getN {h : Heap} {name : Str} : ∀ {l : List (Str × SV)} {es : List DictEntry}, Ents h ρ l es → get l name = none → PySem.W.getL name es = some none
  | _, _, .nil, _ => rfl
  | _, _, .cons (x := y) (e := e) (es := es) hk a c, g => by
    unfold get at g
    unfold PySem.W.getL
    rw [List.find?_cons, hk, isStr_eq]
    cases q : strEq y name with
    | true => rw [q] at g; cases g
    | false =>
      rw [q] at g; dsimp only at g
      have e1 := Ents.getN c g
      unfold PySem.W.getL at e1
      dsimp only
      split at e1
      · cases e1
      · rename_i z
        rw [z]
        split at e1
        · cases e1
        · rename_i z2
          have : (e :: es).any (·.refKey) = es.any (·.refKey) := by
            rw [List.any_cons]
            have : e.refKey = false := by unfold DictEntry.refKey; rw [hk]
            rw [this]; rfl
          rw [this, if_neg z2]
theorem Ents.putN {h : Heap} {name : Str} {x : SV} {v : Value} {hsh : Int} {tk : Tok} (d : Den h ρ x v) : ∀ {l : List (Str × SV)} {es : List DictEntry}, Ents h ρ l es → get l name = none → Ents h ρ (put l name x) (putL name hsh (.str name tk) v es) ∧ (putL name hsh (.str name tk) v es).length = es.length + 1
  | _, _, .nil, _ => ⟨.cons rfl d .nil, rfl⟩
  | _, _, .cons (x := y) (s := z) (e := e) (es := es) hk a c, g => by
    unfold get at g
    unfold put putL
    rw [hk, isStr_eq]
    cases q : strEq y name with
    | true => rw [q] at g; cases g
    | false =>
      rw [q] at g; dsimp only at g
      obtain ⟨e1, e2⟩ := Ents.putN (hsh := hsh) (tk := tk) d c g
      exact ⟨.cons hk a e1, congrArg Nat.succ e2⟩
theorem Ents.length {h : Heap} : ∀ {l : List (Str × SV)} {es : List DictEntry}, Ents h ρ l es → es.length = l.length
  | _, _, .nil => rfl
  | _, _, .cons _ _ c => congrArg Nat.succ (Ents.length c)
theorem inst_at {i c d : Nat} {u : Value} (R : Rel prog w b env ρ s st.heap) (x : Den st.heap ρ (.own i) u) (e : atN s.led i = some (.inst c d)) : ∃ a dx, u = .ref a ∧ atN ρ i = some a ∧ atN ρ d = some dx ∧ st.heap.get? a = some (instObj c dx) := by
  cases x with
  | own ea =>
    cases R.led.lay i _ _ ea e with
    | inst h1 h2 => exact ⟨_, _, rfl, ea, h1, h2⟩
theorem idict_at {d : Nat} {dx : Addr} {l : List (Str × SV)} (R : Rel prog w b env ρ s st.heap) (ed : atN ρ d = some dx) (e : atN s.led d = some (.idict l)) : ∃ es n, st.heap.get? dx = some (dictOf es n) ∧ Ents st.heap ρ l es ∧ es.length ≤ 100 := by
  cases R.led.lay d _ _ ed e with
  | idict h1 h2 h3 => exact ⟨_, _, h1, h2, h3⟩
theorem handedIn_den {x : SV} {v : Value} (d : Den st.heap ρ x v) (h : isPrim x = false) : handedIn v = true := by
  cases d <;> first | rfl | cases h
theorem attr_ok {v x : SV} {u : Value} {name : Str} {K : KV} {ex : Bool} (S : Sta prog w b) (R : Rel prog w b env ρ s st.heap) (d : Den st.heap ρ v u) (h : attrOf s.led v name = some x) (hk : K x s) :
    wpAny (model prog w) A (getAttr u name ex) (Post prog w b env ρ st K) F0 st := by
  unfold attrOf at h
  cases v <;> first | (cases h; done) | skip
  rename_i i
  try dsimp only at h
  split at h <;> first | (cases h; done) | skip
  rename_i o q
  cases o <;> first | (cases h; done) | skip
  rename_i c dd
  try dsimp only at h
  split at h <;> first | (cases h; done) | skip
  rename_i hc
  have hc := Nat.eq_of_beq_eq_true hc
  subst hc
  split at h <;> first | (cases h; done) | skip
  rename_i hv
  split at h <;> first | (cases h; done) | skip
  rename_i o' q2
  cases o' <;> first | (cases h; done) | skip
  rename_i l
  try dsimp only at h
  split at h <;> first | (cases h; done) | skip
  rename_i y ey
  split at h <;> first | (cases h; done) | skip
  rename_i hp
  cases h
  obtain ⟨a, dx, rfl, ea, ed, hg⟩ := inst_at R d q
  obtain ⟨es, n, hgd, en, _⟩ := idict_at R ed q2
  obtain ⟨val, e1, dv⟩ := en.getL ey
  obtain ⟨f1, f2, f3, f4⟩ := vec_facts (w := w) hv
  obtain ⟨m, F, hh⟩ := R.fr
  exact PySem.W.get_value (S.K.keeps R.stays) (ox := instObj 220 dx) (od := some (dictOf es n)) ⟨hg, rfl, rfl, hgd⟩ (plainGet_of f1).1 (findObj_own f2 f3 rfl e1) (handedIn_den dv hp) ⟨ρ, x, s, .toks R _, dv, hk⟩
theorem set_facts : findIn (heapK w.params) (.ref 220) "__setattr__" = some (some (.builtin "object.__setattr__")) ∧ plainOver (heapK w.params) 220 = true := ⟨by kernel_rfl, by kernel_rfl⟩
theorem attrSet_ok {v x : SV} {u z : Value} {name : Str} {led : List SO} (S : Sta prog w b) (R : Rel prog w b env ρ s st.heap) (d : Den st.heap ρ v u) (dx' : Den st.heap ρ x z) (h : attrPut s.led v name x = some led) {K : St → Prop} (hk : K { s with led := led }) :
    wpAny (model prog w) A (setAttr u name z) (PostU prog w b env ρ st K) F0 st := by
  unfold attrPut at h
  cases v <;> first | (cases h; done) | skip
  rename_i i
  try dsimp only at h
  split at h <;> first | (cases h; done) | skip
  rename_i o q
  cases o <;> first | (cases h; done) | skip
  rename_i c dd
  try dsimp only at h
  split at h <;> first | (cases h; done) | skip
  rename_i hc
  have hc := Nat.eq_of_beq_eq_true hc
  subst hc
  split at h <;> first | (cases h; done) | skip
  rename_i hv
  split at h <;> first | (cases h; done) | skip
  rename_i o' q2
  cases o' <;> first | (cases h; done) | skip
  rename_i l
  try dsimp only at h
  have main : ∀ {l' : List (Str × SV)}, (∀ {h es}, Ents h ρ l es → (∃ z, PySem.W.getL name es = some z) ∧ (es.length ≤ 100 → ∀ {val}, Den h ρ x val → ∀ {hsh tk}, Ents h ρ l' (putL name hsh (.str name tk) val es) ∧ (putL name hsh (.str name tk) val es).length ≤ 100)) → led = setN s.led dd (.idict l') → wpAny (model prog w) A (setAttr u name z) (PostU prog w b env ρ st K) F0 st := fun {l'} hput hled => by
    subst hled
    obtain ⟨a, dx, rfl, ea, ed, hg⟩ := inst_at R d q
    obtain ⟨es, n, hgd, en, hz⟩ := idict_at R ed q2
    obtain ⟨⟨val, e1⟩, hp⟩ := hput en
    obtain ⟨f1, f2, f3, f4⟩ := vec_facts (w := w) hv
    obtain ⟨m, F, hh⟩ := R.fr
    have nd : dx ≠ env.locals := led_ne R (atN_mem ed)
    obtain ⟨p1, p2⟩ := hp hz (hsh := PyData.keyHash w.params name) (tk := st.toks + 1) dx'
    refine PySem.W.set_plain (S.K.keeps R.stays) (ox := instObj 220 dx) (od := some (dictOf es n)) ⟨hg, rfl, rfl, hgd⟩ set_facts.1 (osa_dict (s := { st with toks := st.toks + 1 }) (pre := []) F (newsBut_ok hgd nd (e0_get _)) (S.K.keeps R.stays) ⟨hg, rfl, rfl, hgd⟩ rfl set_facts.2 f4 f2 (by rw [lookIn_dict, e1]; rfl) (fun _ h => nomatch h) newsBut_ne (by rw [putName_dict]) rfl (Nat.le_trans p2 (by decide)) fun h' F' N' => ?_)
    have hD := N' (dx, _) List.mem_cons_self
    exact ⟨ρ, _, Mid.setL R F.ns hh F'.ns ed (but_kept F F' N' fun p hp => List.mem_cons_of_mem _ hp) (fun x' => .idict hD.1 (p1.ext x' fun a hm => R.soft a (xs_one a hm)) p2) ⟨_, hD.1⟩, hk⟩
  split at h
  · rename_i y ey
    cases h
    exact main (fun en => ⟨⟨_, (en.getL ey).choose_spec.1⟩, fun hz val dv hsh tk => by
      obtain ⟨p1, p2⟩ := en.putE (hsh := hsh) (key := .str name tk) dv (by rw [ey]; rfl)
      exact ⟨p1, by rw [p2]; exact hz⟩⟩) rfl
  · rename_i ey
    split at h <;> first | (cases h; done) | skip
    rename_i hb
    cases h
    have hb := Nat.le_of_ble_eq_true hb
    exact main (fun en => ⟨⟨_, en.getN ey⟩, fun hz val dv hsh tk => by
      obtain ⟨p1, p2⟩ := en.putN (hsh := hsh) (tk := tk) dv ey
      have := en.length
      exact ⟨p1, by rw [p2]; omega⟩⟩) rfl
end
inductive OptZ : List Value → List (Option Int) → Prop
  | nil : OptZ [] []
  | none {vs : List Value} {hs : List (Option Int)} : OptZ vs hs → OptZ (.none :: vs) (.none :: hs)
  | some {n : Int} {t : Tok} {vs : List Value} {hs : List (Option Int)} : OptZ vs hs → OptZ (.int n t :: vs) (.some n :: hs)
noncomputable def isZ (k : Option Int) : Value → Bool
  | .none => k == Option.none
  | .int n _ => k == Option.some n
  | _ => false
theorem OptZ.eqI {A : Around} {s : Shared} (k : Int) (t : Tok) : ∀ {vs : List Value} {hs : List (Option Int)}, OptZ vs hs → ∀ y, y ∈ vs → PySem.SeqAt.EqAt A s y (.int k t) (isZ (Option.some k) y)
  | _, _, .none r, y, hy => by
    rcases List.mem_cons.mp hy with rfl | hy
    · exact PySem.SeqAt.EqAt.none_int k t
    · exact r.eqI k t y hy
  | _, _, .some (n := n) (t := u) r, y, hy => by
    rcases List.mem_cons.mp hy with rfl | hy
    · have := PySem.SeqAt.EqAt.int_int (A := A) (s := s) n u k t
      have e : isZ (Option.some k) (.int n u) = (n == k) := by
        simp only [isZ]
        exact Bool.eq_iff_iff.mpr (by simp only [beq_iff_eq, Option.some.injEq]; exact eq_comm)
      rw [e]; exact this
    · exact r.eqI k t y hy
theorem OptZ.eqN {A : Around} {s : Shared} : ∀ {vs : List Value} {hs : List (Option Int)}, OptZ vs hs → ∀ y, y ∈ vs → PySem.SeqAt.EqAt A s y .none (isZ Option.none y)
  | _, _, .none r, y, hy => by
    rcases List.mem_cons.mp hy with rfl | hy
    · exact PySem.SeqAt.EqAt.same .none
    · exact r.eqN y hy
  | _, _, .some (n := n) (t := u) r, y, hy => by
    rcases List.mem_cons.mp hy with rfl | hy
    · exact PySem.SeqAt.EqAt.int_none n u
    · exact r.eqN y hy
theorem OptZ.countP (k : Option Int) : ∀ {vs : List Value} {hs : List (Option Int)}, OptZ vs hs → vs.countP (isZ k) = hs.count k
  | _, _, .nil => rfl
  | _, _, .none r => by rw [List.countP_cons, List.count_cons, r.countP k]; cases k <;> simp [isZ]
  | _, _, .some (n := n) r => by
    rw [List.countP_cons, List.count_cons, r.countP k]
    cases k with
    | none => simp [isZ]
    | some k =>
      simp only [isZ]
      by_cases h : k = n
      · subst h; simp
      · simp [h, Ne.symm h]
section
variable {prog : Program} {w : World} {A : Around} {E : Value → Shared → Prop} {s : Shared} {l : Addr} {vs : List Value} {hs : List (Option Int)} {Q : Value → Shared → Prop}
theorem count_optI {k : Int} {t : Tok} (hl : s.heap.IsList l vs.toArray) (hi : OptZ vs hs) (h : Q (.int ((hs.count (Option.some k) : Nat) : Int) s.toks) { s with toks := s.toks + 1 }) : wpAny (model prog w) A (call (.builtin "list.count") [.ref l, .int k t]) Q E s := by
  obtain ⟨⟨cls, dd, data, sl⟩, ho, hc, n, hd⟩ := id hl
  simp only at hc hd
  subst hc hd
  refine call_meets PySem.F.slot_list_count ⟨_, ho, rfl⟩ PySem.F.entry_list_count (PySem.F.args_list_count_2 _ _) (PySem.SeqAt.list_countAt l vs.toArray n dd sl (.int k t) (isZ (Option.some k))) ⟨ho, fun y hy => hi.eqI k t y (by simpa using hy), ?_⟩
  rw [show vs.toArray.toList = vs from rfl, hi.countP]
  exact h
theorem count_optN (hl : s.heap.IsList l vs.toArray) (hi : OptZ vs hs) (h : Q (.int ((hs.count Option.none : Nat) : Int) s.toks) { s with toks := s.toks + 1 }) : wpAny (model prog w) A (call (.builtin "list.count") [.ref l, .none]) Q E s := by
  obtain ⟨⟨cls, dd, data, sl⟩, ho, hc, n, hd⟩ := id hl
  simp only at hc hd
  subst hc hd
  refine call_meets PySem.F.slot_list_count ⟨_, ho, rfl⟩ PySem.F.entry_list_count (PySem.F.args_list_count_2 _ _) (PySem.SeqAt.list_countAt l vs.toArray n dd sl .none (isZ Option.none)) ⟨ho, fun y hy => hi.eqN y (by simpa using hy), ?_⟩
  rw [show vs.toArray.toList = vs from rfl, hi.countP]
  exact h
end
section
variable {prog : Program} {w : World} {b : Heap} {env : Env} {A : Around} {ρ : List Addr} {s : St} {st : Shared} {C : Cfg}
theorem Dens.oints {h : Heap} : ∀ {xs : List (Option Int)} {vs : List Value}, Dens h ρ (xs.map oin) vs → OptZ vs xs
  | [], _, .nil => .nil
  | none :: _, _, .cons a c => by cases a; exact .none (Dens.oints c)
  | some _ :: _, _, .cons a c => by cases a; exact .some (Dens.oints c)
theorem ints_optZ : ∀ {xs : List Int} {vs : List Value}, IntsAre vs xs → OptZ vs (xs.map some)
  | _, _, .nil => .nil
  | _, _, .cons _ _ c => .some (ints_optZ c)
theorem count_some (i : Int) : ∀ xs : List Int, (xs.map some).count (some i) = xs.count i
  | [] => rfl
  | x :: r => by rw [List.map_cons, List.count_cons, List.count_cons, count_some i r]; by_cases h : x = i <;> simp [h]
noncomputable def methId (name : Str) : String := match strEq name "append" with
  | true => "list.append"
  | false => match strEq name "count" with
    | true => "list.count"
    | false => match strEq name "pop" with
      | true => "list.pop"
      | false => "dict.get"
theorem anyStr3 {name : Str} (h : anyStr ["append", "count", "pop"] name = true) : name = ("append" : Str) ∨ name = ("count" : Str) ∨ name = ("pop" : Str) := by
  unfold anyStr at h
  cases h1 : strEq "append" name with
  | true => exact .inl (strEq_iff.mp h1).symm
  | false =>
    rw [h1] at h; dsimp only at h; unfold anyStr at h
    cases h2 : strEq "count" name with
    | true => exact .inr (.inl (strEq_iff.mp h2).symm)
    | false =>
      rw [h2] at h; dsimp only at h; unfold anyStr at h
      cases h3 : strEq "pop" name with
      | true => exact .inr (.inr (strEq_iff.mp h3).symm)
      | false => rw [h3] at h; cases h
theorem methId_append : methId "append" = "list.append" := by kernel_rfl
theorem methId_count : methId "count" = "list.count" := by kernel_rfl
theorem methId_pop : methId "pop" = "list.pop" := by kernel_rfl
theorem methId_get : methId "get" = "dict.get" := by kernel_rfl
theorem methGet_ok {v : SV} {u : Value} {name : Str} {pl : Sem Bool} {K : Unit → Prop} (R : Rel prog w b env ρ s st.heap) (d : Den st.heap ρ v u) (h : methKind v name s K) :
    K () ∧ ∀ Q : Value × List Value → Shared → Prop, Q (.builtin (methId name), [u]) st → wpAny (model prog w) A (getMethod u name pl) Q F0 st := by
  cases v <;> first | exact False.elim h | (unfold methKind at h; try dsimp only at h)
  rename_i i
  try dsimp only at h
  split at h <;> first | exact h.elim | skip
  rename_i o q
  cases o <;> first | exact h.elim | skip
  · rename_i l
    try dsimp only at h
    split at h <;> first | exact h.elim | skip
    rename_i hn
    obtain ⟨a, vs, n, rfl, ea, hg, dd⟩ := list_at R d (show itemOf s.led i = some l by unfold itemOf; rw [q])
    have nd : st.heap.NoDictAt (.ref a) := ⟨_, hg, rfl⟩
    refine ⟨h, fun Q hq => ?_⟩
    rcases anyStr3 hn with rfl | rfl | rfl
    · exact getMethod_list_of PySem.F.slot_list_append PySem.F.type_list_append (isList_of hg) nd (methId_append ▸ hq)
    · exact getMethod_list_of PySem.F.slot_list_count PySem.F.type_list_count (isList_of hg) nd (methId_count ▸ hq)
    · exact getMethod_list_of PySem.F.slot_list_pop PySem.F.type_list_pop (isList_of hg) nd (methId_pop ▸ hq)
  · rename_i l
    try dsimp only at h
    split at h <;> first | exact h.elim | skip
    rename_i hn
    have hn := strEq_iff.mp hn
    subst hn
    obtain ⟨a, o, kvs, rfl, ea, hg, hd, hk, _⟩ := sdict_at R d q
    have hm := mem_allNews hg (led_ne R (atN_mem ea)) (e0_get _)
    exact ⟨h, fun Q hq => PySem.W.kdg_method (knd := PySem.strKind prog w) allNews_ok hm hd (methId_get ▸ hq)⟩
theorem intEnd {i : Int} {t : Tok} {K : KV} (R : Rel prog w b env ρ s st.heap) (tk : Nat) (h : K (.int i) s) : Post prog w b env ρ st K (.int i t) { st with toks := tk } := ⟨ρ, _, s, .toks R _, .int _ _, h⟩
theorem snocL_of {l : SL} {v : SV} {K : SL → Prop} (h : snocL l v K) : ∃ l', l'.den = l.den ++ [v] ∧ K l' := by
  cases l <;> first | exact h.elim | exact ⟨_, rfl, h⟩ | skip
  rename_i xs
  cases v <;> first | exact h.elim | skip
  rename_i z
  exact ⟨.ints (xs ++ [z]), by simp [SL.den], h⟩
theorem method_ok {v : SV} {u : Value} {name : Str} {vs : List SV} {us : List Value} {K : KV} (R : Rel prog w b env ρ s st.heap) (d : Den st.heap ρ v u) (ds : Dens st.heap ρ vs us) (h : method v name vs s K) :
    wpAny (model prog w) A (call (.builtin (methId name)) ([u] ++ us)) (Post prog w b env ρ st K) F0 st := by
  cases v <;> first | exact False.elim h | (unfold method at h; try dsimp only at h)
  rename_i i
  try dsimp only at h
  split at h <;> first | exact h.elim | skip
  rename_i o q
  cases o <;> first | exact h.elim | skip
  · rename_i l
    try dsimp only at h
    obtain ⟨a, xs, n, rfl, ea, hg, dd⟩ := list_at R d (show itemOf s.led i = some l by unfold itemOf; rw [q])
    have nd := led_ne R (atN_mem ea)
    have hl := dd.length
    rw [SL.len_den] at hl
    obtain ⟨m, F, hh⟩ := R.fr
    split at h
    · rename_i hn
      have hn := strEq_iff.mp hn
      subst hn
      rw [methId_append]
      split at h <;> first | exact h.elim | skip
      rename_i x
      cases ds with
      | cons dx dn =>
        cases dn
        obtain ⟨hz, h⟩ := h
        have hz := smallL_len hz
        obtain ⟨l', el, h⟩ := snocL_of h
        refine PySem.W.append_K F (newsBut_ok hg nd (e0_get _)) (.head newsBut_ne) (fun h' F' N' => ?_) (by simp only [List.size_toArray, hl, sizeLine]; omega)
        have hD := N' (a, _) List.mem_cons_self
        refine ⟨ρ, _, _, Mid.setL (tk := st.toks) R F.ns hh F'.ns ea (but_kept F F' N' fun p hp => List.mem_cons_of_mem _ hp) (fun x' => .list (l := l') (by rw [List.push_toArray] at hD; exact hD.1) (by rw [el]; exact (dd.append (.cons dx .nil)).ext x' fun a hm => R.soft a (xs_one a hm))) ⟨_, hD.1⟩, .none, h⟩
    · split at h
      · rename_i hn
        have hn := strEq_iff.mp hn
        subst hn
        rw [methId_count]
        split at h <;> first | exact h.elim | skip
        rename_i x
        cases ds with
        | cons dx dn =>
          cases dn
          obtain ⟨hz, h⟩ := h
          cases l <;> first | exact False.elim h | (unfold countL at h; try dsimp only at h)
          · rename_i ns
            cases x <;> first | exact h.elim | skip
            rename_i k
            cases dx
            exact count_optI (isList_of hg) (ints_optZ (Dens.ints dd)) (by rw [count_some]; exact intEnd R _ h)
          · rename_i ns
            cases x <;> first | exact h.elim | skip
            · cases dx
              exact count_optN (isList_of hg) (Dens.oints dd) (intEnd R _ h)
            · cases dx
              exact count_optI (isList_of hg) (Dens.oints dd) (intEnd R _ h)
      · split at h <;> first | exact h.elim | skip
        rename_i hn
        have hn := strEq_iff.mp hn
        subst hn
        rw [methId_pop]
        split at h <;> first | exact h.elim | skip
        rename_i x
        cases x <;> first | exact h.elim | skip
        rename_i j
        try dsimp only at h
        split at h <;> first | exact h.elim | skip
        cases ds with
        | cons dx dn =>
          cases dn
          cases dx
          obtain ⟨hz, h⟩ := h
          cases l <;> first | exact False.elim h | (unfold popL at h; try dsimp only at h)
          rename_i ns
          obtain ⟨hne, h⟩ := h
          cases ns with
          | nil => exact absurd rfl hne
          | cons y ns =>
            cases dd with
            | cons dy dr =>
              rename_i v0 vs0
              refine PySem.W.kl_popAt (k := 0) (p := []) (q := vs0) (y := v0) F (newsBut_ok hg nd (e0_get _)) (by decide) (by simp [seqIndex?]) rfl (.head newsBut_ne) (by simp only [List.length_cons, SL.len, sizeLine] at hz hl ⊢; omega) fun h' F' N' => ?_
              have hD := N' (a, _) List.mem_cons_self
              have mid : Mid prog w b env ρ st ρ { s with led := setN s.led i (.list (.ints ns)) } { st with heap := h', toks := st.toks } := Mid.setL (tk := st.toks) R F.ns hh F'.ns ea (but_kept F F' N' fun p hp => List.mem_cons_of_mem _ hp) (fun x' => .list hD.1 (dr.ext x' fun a hm => R.soft a (xs_one a hm))) ⟨_, hD.1⟩
              exact ⟨ρ, _, _, mid, dy.mid mid R, h⟩
  · rename_i l
    try dsimp only at h
    split at h <;> first | exact h.elim | skip
    rename_i hn
    have hn := strEq_iff.mp hn
    subst hn
    rw [methId_get]
    split at h <;> first | exact h.elim | skip
    rename_i x
    cases x <;> first | exact h.elim | skip
    rename_i k
    try dsimp only at h
    cases ds with
    | cons dx dn =>
      cases dn
      cases dx with
      | str _ t =>
        obtain ⟨a, o, kvs, rfl, ea, hg, hd, hk, lo⟩ := sdict_at R d q
        have hm := mem_allNews hg (led_ne R (atN_mem ea)) (e0_get _)
        have kv := Kvs.value (k := k) hk
        cases e : get l k with
        | none =>
          rw [e] at kv h
          exact PySem.W.kdg_get1 (knd := PySem.strKind prog w) allNews_ok hm hd lo (strKind_is _ _ _ _) none kv ⟨ρ, _, s, .toks R _, .none, h⟩
        | some y =>
          rw [e] at kv h
          obtain ⟨v, hv, dv⟩ := kv
          exact PySem.W.kdg_get1 (knd := PySem.strKind prog w) allNews_ok hm hd lo (strKind_is _ _ _ _) (some v) hv ⟨ρ, _, s, .toks R _, dv, h⟩
end
section
variable {prog : Program} {w : World} {b : Heap} {env : Env} {A : Around} {ρ : List Addr} {s : St} {st : Shared} {C : Cfg}
theorem isIn_vec : isIn (heapK w.params) (.ref 220) 220 = true := by kernel_rfl
/-- a new list by a rule of the kit that speaks of a frame and its news -/
theorem newK {l : SL} {m : Str → Option Value} {D : Addr} {h' : Heap} {tk c : Nat} {vs : List Value} {K : KV} (R : Rel prog w b env ρ s st.heap) (F : Fr e0 env.locals st.heap m) (hh : ∀ x sv, get s.loc x = some sv → Holds env st.heap ρ m x sv)
    (d : Dens st.heap ρ l.den vs) (F' : Fr e0 env.locals h' m) (N' : News e0 env.locals h' ((D, PySem.W.listOf (List.toArray vs) c) :: allNews e0 env.locals st.heap)) (lt : ∀ p ∈ allNews e0 env.locals st.heap, p.1 < D) (h : newObj (.list l) s K) :
    Post prog w b env ρ st K (.ref D) { st with heap := h', toks := tk } := by
  have hD := N' (D, _) List.mem_cons_self
  have fr := fresh_of hD.2.1 hD.2.2 lt
  have mid := Mid.newL (tk := tk) (a := D) (o := .list l) R F.ns hh F'.ns (all_kept F F' N' fun p hp => List.mem_cons_of_mem _ hp) fr fun x' => .list hD.1 (d.ext x' fun a hm => R.soft a (xs_one a hm))
  exact ⟨_, _, _, mid, den_new R.led, h⟩
theorem builtin_ok {lv : Nat} {id : String} {vs : List SV} {us : List Value} {K : KV} (S : Sta prog w b) (hA : AOk lv A) (R : Rel prog w b env ρ s st.heap) (ds : Dens st.heap ρ vs us) (h : builtinCall id vs s K) :
    wpAny (model prog w) A (call (.builtin id) us) (Post prog w b env ρ st K) F0 st := by
  unfold builtinCall at h
  have idOf : ∀ {x : String}, idEq id x = true → id = x := fun e => of_decide_eq_true e
  split at h
  · rename_i hn
    have hn := idOf hn
    subst hn
    split at h <;> first | exact h.elim | skip
    rename_i v
    cases v <;> first | exact h.elim | skip
    dsimp only at h
    split at h <;> first | exact h.elim | skip
    rename_i i l q
    cases ds with
    | cons dx dn =>
      cases dn
      obtain ⟨a, xs, n, rfl, ea, hg, dd⟩ := list_at R dx q
      have hz := smallL_len h.1
      have hl := dd.length
      rw [SL.len_den] at hl
      exact PySem.W.kun_lenL (isList_of hg) (k := (l.len : Int)) (by rw [List.size_toArray, hl]) (by omega) ⟨ρ, _, s, .toks R _, .int _ _, h.2⟩
  · split at h
    · rename_i hn
      have hn := idOf hn
      subst hn
      split at h <;> first | exact h.elim | skip
      rename_i v
      cases v <;> first | exact h.elim | skip
      cases ds with
      | cons dx dn =>
        cases dn
        cases dx
        exact call_abs_int fun u tk => ⟨ρ, _, s, .toks R _, .int _ _, h⟩
    · split at h
      · rename_i hn
        have hn := idOf hn
        subst hn
        split at h <;> first | exact h.elim | skip
        rename_i v t
        cases v <;> first | exact h.elim | skip
        dsimp only at h
        split at h <;> first | exact h.elim | skip
        rename_i i o q
        cases o <;> first | exact h.elim | skip
        cases t <;> first | exact h.elim | skip
        rename_i c d a
        dsimp only at h
        split at h <;> first | exact h.elim | skip
        rename_i hc
        have hc := Nat.eq_of_beq_eq_true hc
        subst hc
        split at h <;> first | exact h.elim | skip
        rename_i hc
        have hc := Nat.eq_of_beq_eq_true hc
        subst hc
        cases ds with
        | cons dx dn =>
          cases dn with
          | cons dt dn =>
            cases dn
            cases dt
            obtain ⟨a, dd, rfl, ea, ed, hg⟩ := inst_at R dx q
            obtain ⟨o, ho⟩ : ∃ o, st.heap.get? dd = some o := R.led.live dd (atN_mem ed)
            have I : PySem.W.InstAt st.heap a (instObj 220 dd) 220 (some o) := ⟨hg, rfl, rfl, ho⟩
            exact isi_call (K := heapK w.params) (S.K.keeps R.stays) (fun _ => I.type) isIn_vec (by intro e; cases e) ⟨ρ, _, s, .refl R, .bool _, h⟩
      · split at h
        · rename_i hn
          have hn := idOf hn
          subst hn
          split at h <;> first | exact h.elim | skip
          rename_i v
          cases v <;> first | exact h.elim | skip
          dsimp only at h
          split at h <;> first | exact h.elim | skip
          rename_i i xs q
          cases ds with
          | cons dx dn =>
            cases dn
            obtain ⟨a, us, n, rfl, ea, hg, dd⟩ := list_at R dx q
            obtain ⟨m, F, hh⟩ := R.fr
            exact sumK hA.1 F allNews_ok (isList_of hg) (Dens.ints dd) fun h' tk t' F' N' => ⟨ρ, _, s, Mid.growL (tk := tk) R F.ns hh F'.ns (all_kept F F' N' fun _ hp => hp), .int _ _, h⟩
        · split at h <;> first | exact h.elim | skip
          rename_i hn
          have hn := idOf hn
          subst hn
          split at h <;> first | exact h.elim | skip
          rename_i v
          cases v <;> first | exact h.elim | skip
          dsimp only at h
          split at h <;> first | exact h.elim | skip
          rename_i i xs q
          cases ds with
          | cons dx dn =>
            cases dn
            obtain ⟨a, us, n, rfl, ea, hg, dd⟩ := list_at R dx q
            obtain ⟨m, F, hh⟩ := R.fr
            refine PySem.W.kso_sorted F allNews_ok (isList_of hg) (Dens.ints dd) h.1 fun D vs' ns' c h' F' N' lt hi hl hp hs _ => ?_
            have hD := N' (D, _) List.mem_cons_self
            have fr := fresh_of hD.2.1 hD.2.2 lt
            have mid := Mid.newL (tk := st.toks) (a := D) (o := .list (.ints ns')) R F.ns hh F'.ns (all_kept F F' N' fun p hp => List.mem_cons_of_mem _ hp) fr fun x' => .list hD.1 (Dens.ofInts hi)
            exact ⟨_, _, _, mid, den_new R.led, h.2 ns' hp hs⟩
theorem type_ok {id : String} {vs : List SV} {us : List Value} {K : KV} (R : Rel prog w b env ρ s st.heap) (ds : Dens st.heap ρ vs us) (h : typeCall id vs s K) :
    wpAny (model prog w) A (call (.type id) us) (Post prog w b env ρ st K) F0 st := by
  unfold typeCall at h
  have idOf : ∀ {x : String}, idEq id x = true → id = x := fun e => of_decide_eq_true e
  split at h
  · rename_i hn
    have hn := idOf hn
    subst hn
    split at h <;> first | exact h.elim | skip
    rename_i v
    cases v <;> first | exact h.elim | skip
    cases ds with
    | cons dx dn =>
      cases dn
      cases dx
      exact P.str_of_int (shown_abs (N := 2000000) (by split <;> omega) (by decide +kernel)) ⟨ρ, _, s, .toks R _, .str _ _, h.2⟩
  · split at h
    · rename_i hn
      have hn := idOf hn
      subst hn
      split at h <;> first | exact h.elim | skip
      rename_i v
      cases v <;> first | exact h.elim | skip
      dsimp only at h
      split at h <;> first | exact h.elim | skip
      rename_i i l q
      cases ds with
      | cons dx dn =>
        cases dn
        obtain ⟨a, xs, n, rfl, ea, hg, dd⟩ := list_at R dx q
        have hz := smallL_len h.1
        have hl := dd.length
        rw [SL.len_den] at hl
        obtain ⟨m, F, hh⟩ := R.fr
        exact list_copyK F allNews_ok (isList_of hg) (fun D c h' F' N' lt => newK R F hh dd F' N' lt h.2) (by simp only [List.size_toArray, hl, sizeLine]; omega)
    · split at h <;> first | exact h.elim | skip
      rename_i hn
      have hn := idOf hn
      subst hn
      split at h <;> first | exact h.elim | skip
      rename_i v
      cases v <;> first | exact h.elim | skip
      cases ds with
      | cons dx dn =>
        cases dn
        cases dx
        obtain ⟨m, F, hh⟩ := R.fr
        refine range1_rows F allNews_ok fun h' tk t₁ u₁ v₁ hr F' N' k => ?_
        have mid : Mid prog w b env ρ st ρ s { st with heap := h', toks := tk } := Mid.grow R k
        refine ⟨ρ, _, s, mid, .rng h.1.1 h.1.2 hr fun hm => ?_, h.2⟩
        obtain ⟨o, e⟩ := R.led.live _ hm
        rw [get_size] at e; cases e
end
noncomputable def SpecOk (prog : Program) (w : World) (b : Heap) (lv : Nat) (a : Addr) (sp : Spec) : Prop :=
  keepIn (heapK w.params) (.ref a) = true ∧
  ∀ (A : Around) (ρ : List Addr) (led : List SO) (st : Shared) (vs : List SV) (us : List Value) (K : SV → List SO → Prop), AOk lv A → Led prog w b st.heap ρ led → (∀ a o, b.get? a = some o → st.heap.get? a = some o) → Dens st.heap ρ vs us → sp vs led K →
    wpAny (model prog w) A (call (.ref a) us) (fun v st' => ∃ ρ' sv led', st'.os = st.os ∧ st'.gens = st.gens ∧ Ext [] ρ st.heap ρ' st'.heap ∧ Led prog w b st'.heap ρ' led' ∧ Den st'.heap ρ' sv v ∧ K sv led') F0 st
structure BunOk (prog : Program) (w : World) (b : Heap) (lv : Nat) (B : Bun) : Prop where
  ev : ∀ {env A ρ s} {st : Shared} {e : Expr} {K : KV}, EnvOk env → AOk lv A → Rel prog w b env ρ s st.heap → B.ev env.scope.names e s K → wpAny (model prog w) A (eval e env) (Post prog w b env ρ st K) F0 st
  tst : ∀ {env A ρ s} {st : Shared} {e : Expr} {K : Bool → St → Prop}, EnvOk env → AOk lv A → Rel prog w b env ρ s st.heap → B.tst env.scope.names e s K → wpAny (model prog w) A (isTrue e env (eval e env)) (PostB prog w b env ρ st K) F0 st
  ex : ∀ {env A ρ s} {st : Shared} {e : Stmt} {K : KF}, EnvOk env → AOk lv A → Rel prog w b env ρ s st.heap → B.ex env.scope.names e s K → wpAny (model prog w) A (exec e env) (PostF prog w b env ρ st K) F0 st
section
variable {prog : Program} {w : World} {b : Heap} {env : Env} {A : Around} {ρ ρ' : List Addr} {s s' : St} {st st' : Shared} {C : Cfg} {B : Bun} {lv : Nat}
theorem BunOk.evk {s : St} {st : Shared} {e : Expr} {K : KV} {Q : Value → Shared → Prop} {E : Value → Shared → Prop} (H : BunOk prog w b lv B) (O : EnvOk env) (hA : AOk lv A) (R : Rel prog w b env ρ s st.heap) (h : B.ev env.scope.names e s K)
    (k : ∀ v st₁ ρ₁ sv s₁, Mid prog w b env ρ st ρ₁ s₁ st₁ → Den st₁.heap ρ₁ sv v → K sv s₁ → Q v st₁) : wpAny (model prog w) A (eval e env) Q E st :=
  wpAny_mono (H.ev O hA R h) (fun _ _ x => x.elim fun _ x => x.elim fun _ x => x.elim fun _ x => k _ _ _ _ _ x.1 x.2.1 x.2.2) fun _ _ x => x.elim
theorem BunOk.tstk {s : St} {st : Shared} {e : Expr} {K : Bool → St → Prop} {Q : Bool → Shared → Prop} {E : Value → Shared → Prop} (H : BunOk prog w b lv B) (O : EnvOk env) (hA : AOk lv A) (R : Rel prog w b env ρ s st.heap) (h : B.tst env.scope.names e s K)
    (k : ∀ c st₁ ρ₁ s₁, Mid prog w b env ρ st ρ₁ s₁ st₁ → K c s₁ → Q c st₁) : wpAny (model prog w) A (isTrue e env (eval e env)) Q E st :=
  wpAny_mono (H.tst O hA R h) (fun _ _ x => x.elim fun _ x => x.elim fun _ x => k _ _ _ _ x.1 x.2) fun _ _ x => x.elim
theorem starEach_cons {e : Expr} {r : List Expr} (h : isStarE e = false) : starEach (e :: r) env = (false, eval e env) :: starEach r env := by
  cases e <;> first | rfl | cases h
theorem noStar_cons {e : Expr} {r : List Expr} (h : noStar (e :: r) = true) : isStarE e = false ∧ noStar r = true := by
  unfold noStar at h
  cases q : isStarE e with
  | true => rw [q] at h; cases h
  | false => rw [q] at h; exact ⟨rfl, h⟩
theorem noStar_any {pos : Pos} : ∀ {es : List Expr}, noStar es = true → (backTo pos (starEach es env)).any (·.1) = false
  | [], _ => rfl
  | e :: r, h => by
    obtain ⟨h1, h2⟩ := noStar_cons h
    rw [starEach_cons h1]
    show (false || (backTo pos (starEach r env)).any (·.1)) = false
    rw [noStar_any h2]; rfl
theorem evs_okL {pos : Pos} (H : BunOk prog w b lv B) (O : EnvOk env) (hA : AOk lv A) : ∀ {es : List Expr} {ρ : List Addr} {s : St} {st : Shared} {K : List SV → St → Prop}, noStar es = true → Rel prog w b env ρ s st.heap → evsW B env.scope.names es s K →
    wpAny (model prog w) A (spliced (backTo pos (starEach es env))) (fun vs st' => vs.length = es.length ∧ PostL prog w b env ρ st K vs st') F0 st
  | [], ρ, s, st, K, _, R, h => args_nil ⟨rfl, ρ, [], s, .refl R, .nil, h⟩
  | e :: r, ρ, s, st, K, hn, R, h => by
    obtain ⟨h1, h2⟩ := noStar_cons hn
    refine args_cons (H.evk O hA R h fun v st₁ ρ₁ sv s₁ m₁ d₁ k₁ => ?_) (starEach_cons h1)
    refine wpAny_mono (evs_okL H O hA h2 m₁.rel k₁) (fun vs st₂ hvs => ?_) fun _ _ x => x
    obtain ⟨hl, ρ₂, svs, s₂, m₂, d₂, k₂⟩ := hvs
    exact ⟨congrArg Nat.succ hl, ρ₂, sv :: svs, s₂, m₁.trans m₂, .cons (d₁.mid m₂ m₁.rel) d₂, k₂⟩
theorem evs_ok {pos : Pos} {es : List Expr} {K : List SV → St → Prop} (H : BunOk prog w b lv B) (O : EnvOk env) (hA : AOk lv A) (hn : noStar es = true) (R : Rel prog w b env ρ s st.heap) (h : evsW B env.scope.names es s K) :
    wpAny (model prog w) A (spliced (backTo pos (starEach es env))) (PostL prog w b env ρ st K) F0 st := wpAny_mono (evs_okL H O hA hn R h) (fun _ _ x => x.2) fun _ _ x => x
theorem specOf_ok : ∀ {l : List (Nat × Spec)} {a : Nat} {vs led K}, (∀ p ∈ l, SpecOk prog w b lv p.1 p.2) → specOf l a vs led K → SpecOk prog w b lv a (specOf l a)
  | [], _, _, _, _, _, h => h.elim
  | p :: r, a, vs, led, K, H, h => by
    unfold specOf at h ⊢
    cases q : Nat.beq p.1 a with
    | true => rw [← Nat.eq_of_beq_eq_true q]; exact H p List.mem_cons_self
    | false => rw [q] at h; exact specOf_ok (fun p hp => H p (List.mem_cons_of_mem _ hp)) h
theorem keep_of : ∀ {l : List (Nat × Spec)} {a : Nat}, (∀ p ∈ l, SpecOk prog w b lv p.1 p.2) → (∃ p ∈ l, p.1 = a) → keepIn (heapK w.params) (.ref a) = true := fun H ⟨p, hp, e⟩ => e ▸ (H p hp).1
theorem call_ok {a : Nat} {vs : List SV} {us : List Value} {K : KV} (H : ∀ p ∈ C.call, SpecOk prog w b lv p.1 p.2) (hA : AOk lv A) (R : Rel prog w b env ρ s st.heap) (ds : Dens st.heap ρ vs us) (h : specOf C.call a vs s.led fun v led => K v { s with led := led }) :
    wpAny (model prog w) A (call (.ref a) us) (Post prog w b env ρ st K) F0 st := by
  refine wpAny_mono ((specOf_ok H h).2 A ρ s.led st vs us _ hA R.led R.stays ds h) (fun v st' hv => ?_) fun _ _ x => x
  obtain ⟨ρ', sv, led', h1, h2, x, D, d, k⟩ := hv
  exact ⟨ρ', sv, { s with led := led' }, ⟨h1, h2, x.mono (fun _ m => nomatch m), R.outer x D rfl⟩, d, k⟩
theorem tuple_ok {vs : List SV} {us : List Value} {K : KV} (R : Rel prog w b env ρ s st.heap) (ds : Dens st.heap ρ vs us) (hz : us.length ≤ sizeLine) (h : K (.tup vs) s) :
    wpAny (model prog w) A (newTuple us) (Post prog w b env ρ st K) F0 st := by
  refine wpAny_newTuple ?_ hz
  have mid : Mid prog w b env ρ st ρ s { st with heap := st.heap.push { cls := .type "tuple", data := .seq us.toArray } } := Mid.push (tk := st.toks) R _
  refine ⟨ρ, _, s, mid, .tup ⟨_, Heap.get?_push_size _ rfl, rfl, _, rfl⟩ (fun hm => ?_) (ds.mid mid R), h⟩
  obtain ⟨o, e⟩ := R.led.live _ hm
  rw [get_size] at e; cases e
theorem Den.more {h : Heap} {d : Addr} (q : Soft h [d]) : ∀ {sv v}, Den h ρ sv v → Den h (ρ ++ [d]) sv v := by
  have off : ∀ a o, h.get? a = some o → ((o.cls = .type "tuple" ∧ ∃ xs n, o.data = .seq xs n) ∨ (o.cls = .type "range" ∧ ∃ vs, o.data = .fields vs)) → a ∉ ρ → a ∉ ρ ++ [d] := fun a o e k n m => by
    rcases List.mem_append.mp m with m | m
    · exact n m
    · obtain ⟨o', e', h1, h2⟩ := q a m
      rw [e] at e'; cases e'
      rcases k with ⟨kc, xs, n, k⟩ | ⟨kc, vs, k⟩
      · exact h1 _ _ kc k
      · exact h2 _ kc k
  intro sv v x
  exact Den.rec (motive_1 := fun sv v _ => Den h (ρ ++ [d]) sv v) (motive_2 := fun l vs _ => Dens h (ρ ++ [d]) l vs) .none .bool .int .str
    (fun it n _ ih => .tup it (by obtain ⟨o, e, c, k, dd⟩ := it; exact off _ o e (.inl ⟨c, _, _, dd⟩) n) ih)
    (fun e => .own (by rw [atN_append, if_pos (atN_some e)]; exact e)) .glo .prim
    (fun h0 h1 e n => .rng h0 h1 e (off _ _ e (.inr ⟨rfl, _, rfl⟩) n))
    .blist
    .nil (fun _ _ a b => .cons a b) x
theorem Dens.more {h : Heap} {d : Addr} (q : Soft h [d]) : ∀ {l vs}, Dens h ρ l vs → Dens h (ρ ++ [d]) l vs
  | _, _, .nil => .nil
  | _, _, .cons a c => .cons (a.more q) (Dens.more q c)
theorem Lay.more {h : Heap} {d a : Addr} {o : SO} (q : Soft h [d]) (x : Lay prog w h ρ o a) : Lay prog w h (ρ ++ [d]) o a := by
  cases x with
  | list e k => exact .list e (k.more q)
  | inst e k => exact .inst (by rw [atN_append, if_pos (atN_some e)]; exact e) k
  | idict e k n =>
    refine .idict e ?_ n
    clear e n
    induction k with
    | nil => exact .nil
    | cons a c _ ih => exact .cons a (c.more q) ih
  | sdict e k kv n =>
    refine .sdict e k ?_ n
    clear e k
    induction kv with
    | nil => exact .nil
    | cons a _ ih => exact .cons (a.more q) ih
  | tab0 e => exact .tab0 e
  | tab1 e => exact .tab1 e
theorem Led.more {h : Heap} {d : Addr} {led : List SO} {o : SO} (q : Soft h [d]) (D : Led prog w b h ρ led) (nd : d ∉ ρ) (hb : b.get? d = none) (ho : Lay prog w h (ρ ++ [d]) o d) : Led prog w b h (ρ ++ [d]) (led ++ [o]) := by
  have one : ∀ i c, atN [d] i = some c → i = 0 ∧ c = d := fun i c e => by
    cases i with
    | zero => cases e; exact ⟨rfl, rfl⟩
    | succ n => cases e
  refine ⟨by simp [D.len], fun i j c ei ej => ?_, fun i c o' ec eo => ?_, fun c m => ?_⟩
  · rw [atN_append] at ei ej
    split at ei <;> split at ej
    · exact D.inj i j c ei ej
    · obtain ⟨_, rfl⟩ := one _ _ ej; exact absurd (atN_mem ei) nd
    · obtain ⟨_, rfl⟩ := one _ _ ei; exact absurd (atN_mem ej) nd
    · have := (one _ _ ei).1; have := (one _ _ ej).1; omega
  · rw [atN_append] at ec eo
    rw [← D.len] at eo
    split at ec
    · rename_i hi
      rw [if_pos hi] at eo
      exact (D.lay i c o' ec eo).more q
    · rename_i hi
      rw [if_neg hi] at eo
      obtain ⟨e1, rfl⟩ := one _ _ ec
      rw [e1] at eo; cases eo; exact ho
  · rcases List.mem_append.mp m with m | m
    · exact D.off c m
    · rw [List.mem_singleton.mp m]; exact hb
/-- an object that stands already is taken into the ledger -/
theorem Mid.adopt {h' : Heap} {tk : Nat} {d : Addr} {o : SO} {m : Str → Option Value} (M : Mid prog w b env ρ st ρ' s' st') (hd : st.heap.get? d = none) (nd : d ∉ ρ') (nx : d ∉ xs env) (hb : b.get? d = none)
    (hn : st'.heap.Ns env.locals m) (hh : ∀ x sv, get s'.loc x = some sv → Holds env st'.heap ρ' m x sv) (hn' : h'.Ns env.locals m) (k : ∀ a o, a ≠ d → a ≠ env.locals → st'.heap.get? a = some o → h'.get? a = some o)
    (q : Soft st'.heap [d]) (q' : Soft h' [d]) (ho : Ext [env.locals, d] ρ' st'.heap ρ' h' → Lay prog w h' (ρ' ++ [d]) o d) : Mid prog w b env ρ st (ρ' ++ [d]) { s' with led := s'.led ++ [o] } { st' with heap := h', toks := tk } := by
  have R := M.rel
  have x : Ext [env.locals, d] ρ' st'.heap ρ' h' := ⟨fun _ _ e => e, fun a o e n _ => k a o (fun q => n (by simp [q])) (fun q => n (by simp [q])) e, fun _ m n => absurd m n, fun a o e n => ⟨o, k a o (fun q => n (by simp [q])) (fun q => n (by simp [q])) e⟩⟩
  have sx : Soft st'.heap [env.locals, d] := fun a hm => by
    rcases List.mem_cons.mp hm with rfl | hm
    · exact R.soft _ List.mem_cons_self
    · exact q a hm
  have ne_ρ : ∀ a ∈ ρ', a ≠ d := fun a ha e => nd (e ▸ ha)
  have D : Led prog w b h' (ρ' ++ [d]) (s'.led ++ [o]) := (R.led.ext x sx (fun a ha o => k a o (ne_ρ a ha) (led_ne R ha)) rfl).more q' nd hb (ho x)
  have cell : ∀ c v, st'.heap.IsCell c v → c ∈ env.cells.map (·.2) → h'.IsCell c v := fun c v hc hm => by
    obtain ⟨o, e, dd⟩ := id hc
    exact ⟨o, k c o (fun q => nx (q ▸ List.mem_cons_of_mem _ hm)) (cell_ne hn hc) e, dd⟩
  refine ⟨M.os, M.gens, ⟨fun i a e => ?_, fun a o e nX nr => ?_, fun a hm n => ?_, fun a o e nX => ?_⟩, ⟨D, fun a o e => ?_, ⟨m, hn', fun y sv e => ?_⟩, R.above, fun c hc => ?_, fun a ha hm => ?_, R.inj⟩⟩
  · have := M.ext.pre i a e
    rw [atN_append, if_pos (atN_some this)]; exact this
  · refine k a o (fun q => ?_) (fun q => nX (q ▸ List.mem_cons_self)) (M.ext.keep a o e nX nr)
    subst q; rw [hd] at e; cases e
  · rcases List.mem_append.mp hm with hm | hm
    · exact M.ext.fresh a hm n
    · rw [List.mem_singleton.mp hm]; exact hd
  · obtain ⟨o1, e1⟩ := M.ext.live a o e nX
    exact ⟨o1, k a o1 (fun q => by subst q; rw [hd] at e; cases e) (fun q => nX (q ▸ List.mem_cons_self)) e1⟩
  · refine k a o (fun q => ?_) (fun q => ?_) (R.stays a o e)
    · subst q; rw [hb] at e; cases e
    · have := R.xnone _ (List.mem_cons_self (a := env.locals)); rw [← q, e] at this; cases this
  · obtain ⟨v, dn, kk⟩ := hh y sv e
    exact ⟨v, (dn.ext x sx).more q', kk.imp id fun ⟨k1, c, ec, hc⟩ => ⟨k1, c, ec, cell c _ hc (cells_mem ec)⟩⟩
  · obtain ⟨k1, v, hcl⟩ := R.abc c hc
    exact ⟨k1, v, cell c v hcl hc⟩
  · rcases List.mem_append.mp hm with hm | hm
    · exact R.off a ha hm
    · rw [List.mem_singleton.mp hm] at ha; exact nx ha
end
inductive PS : List Str → List (Value × Value) → List Value → Prop
  | nil : PS [] [] []
  | cons (x : Str) (t : Tok) (v : Value) {names ps us} : PS names ps us → PS (x :: names) ((.str x t, v) :: ps) (v :: us)
theorem PS.keys : ∀ {names ps us}, PS names ps us → allStrKeys ps = true
  | _, _, _, .nil => rfl
  | _, _, _, .cons x t v r => by simpa [allStrKeys] using r.keys
theorem PS.pairs : ∀ {names ps us}, PS names ps us → strPairs ps = names.zip us
  | _, _, _, .nil => rfl
  | _, _, _, .cons x t v r => by simp [strPairs, r.pairs]
theorem PS.length : ∀ {names ps us}, PS names ps us → names.length = us.length
  | _, _, _, .nil => rfl
  | _, _, _, .cons x t v r => congrArg Nat.succ r.length
theorem apartS_nodup : ∀ {names : List Str}, apartS names = true → names.Nodup
  | [], _ => List.nodup_nil
  | x :: r, h => by
    unfold apartS at h
    cases q : anyStr r x with
    | true => rw [q] at h; cases h
    | false =>
      rw [q] at h
      refine List.nodup_cons.mpr ⟨fun m => ?_, apartS_nodup h⟩
      rw [anyStr_any, List.any_eq_false] at q
      exact absurd (beq_self_eq_true x) (by simpa using q x m)
theorem zip_fst : ∀ {names : List Str} {us : List Value}, names.length = us.length → (names.zip us).map (·.1) = names
  | [], [], _ => rfl
  | _ :: _, _ :: _, h => congrArg _ (zip_fst (Nat.succ.inj h))
theorem kvs_zip {h : Heap} {ρ : List Addr} : ∀ {names : List Str} {svs : List SV} {us : List Value}, Dens h ρ svs us → Kvs h ρ (names.zip svs) (names.zip us)
  | [], _, _, _ => .nil
  | _ :: _, _, _, .nil => .nil
  | _ :: _, _, _, .cons a c => .cons a (kvs_zip c)
section
variable {prog : Program} {w : World} {b : Heap} {env : Env} {A : Around} {ρ ρ' : List Addr} {s s' : St} {st st' : Shared} {C : Cfg} {B : Bun} {lv : Nat}
theorem keysOf_cons {k : Option Expr} {ks : List (Option Expr)} {names : List Str} (h : keysOf (k :: ks) = some names) : ∃ x n p l, k = some (.Constant (.str x) n p) ∧ keysOf ks = some l ∧ names = x :: l := by
  unfold keysOf at h
  split at h <;> first | (cases h; done) | skip
  rename_i e
  split at h <;> first | (cases h; done) | skip
  rename_i c n p
  split at h <;> first | (cases h; done) | skip
  rename_i x
  cases q : keysOf ks with
  | none => rw [q] at h; cases h
  | some l => rw [q] at h; cases h; exact ⟨x, n, p, l, rfl, rfl, rfl⟩
theorem pairs_ok {pos : Pos} (H : BunOk prog w b lv B) (O : EnvOk env) (hA : AOk lv A) : ∀ {ks : List (Option Expr)} {names : List Str} {es : List Expr} {ρ : List Addr} {s : St} {st : Shared} {K : List SV → St → Prop},
    keysOf ks = some names → names.length = es.length → Rel prog w b env ρ s st.heap → evsW B env.scope.names es s K →
    wpAny (model prog w) A (evalPairs (pairTrees ks es env pos)) (fun ps st' => ∃ ρ' svs s' us, Mid prog w b env ρ st ρ' s' st' ∧ PS names ps us ∧ Dens st'.heap ρ' svs us ∧ K svs s') F0 st
  | [], names, es, ρ, s, st, K, hk, hl, R, h => by
    cases hk
    cases es with
    | nil => exact pairTrees_nil_walk ⟨ρ, [], s, [], .refl R, .nil, .nil, h⟩
    | cons _ _ => cases hl
  | k :: ks, names, es, ρ, s, st, K, hk, hl, R, h => by
    obtain ⟨x, n, p, l, rfl, hk', rfl⟩ := keysOf_cons hk
    cases es with
    | nil => cases hl
    | cons e es =>
      refine pairTrees_cons_walk (Constant_str ?_)
      refine wpAny_mono (H.ev (st := { st with toks := st.toks + 1 }) O hA R h) (fun v st₁ hv => ?_) fun _ _ x => x
      obtain ⟨ρ₁, sv, s₁, m₁, d₁, k₁⟩ := hv
      refine wpAny_mono (pairs_ok H O hA hk' (Nat.succ.inj hl) m₁.rel k₁) (fun ps st₂ hvs => ?_) fun _ _ x => x
      obtain ⟨ρ₂, svs, s₂, us, m₂, q, d₂, k₂⟩ := hvs
      have m₀ : Mid prog w b env ρ st ρ₁ s₁ st₁ := (Mid.toks R (st.toks + 1)).trans m₁
      exact ⟨ρ₂, sv :: svs, s₂, v :: us, m₀.trans m₂, .cons x _ v q, .cons (d₁.mid m₂ m₁.rel) d₂, k₂⟩
theorem keysOf_some : ∀ {ks : List (Option Expr)} {names : List Str}, keysOf ks = some names → ks.all (·.isSome) = true ∧ strLits ks = true ∧ ks.length = names.length
  | [], _, h => by cases h; exact ⟨rfl, rfl, rfl⟩
  | k :: ks, names, h => by
    obtain ⟨x, n, p, l, rfl, hk', rfl⟩ := keysOf_cons h
    obtain ⟨h1, h2, h3⟩ := keysOf_some hk'
    exact ⟨h1, h2, congrArg Nat.succ h3⟩
theorem dict_ok {pos : Pos} {ks : List (Option Expr)} {es : List Expr} {names : List Str} {K : KV} (S : Sta prog w b) (H : BunOk prog w b lv B) (O : EnvOk env) (hA : AOk lv A) (R : Rel prog w b env ρ s st.heap)
    (hk : keysOf ks = some names) (hl : names.length = es.length) (h15 : names.length ≤ 15) (ha : apartS names = true) (h0 : names ≠ []) (h : evsW B env.scope.names es s fun us s' => newObj (.sdict (names.zip us)) s' K) :
    wpAny (model prog w) A (eval (.Dict ks es pos) env) (Post prog w b env ρ st K) F0 st := by
  obtain ⟨k1, k2, k3⟩ := keysOf_some hk
  have fr : st.heap.get? st.heap.objs.size = none := get_size _
  have hs : (st.heap.objs.size == sysModules) = false := beq_eq_false_iff_ne.mpr (Nat.ne_of_gt (modules_low (S.nolimit.keeps R.stays)))
  have ndρ : st.heap.objs.size ∉ ρ := fun hm => by obtain ⟨o, e⟩ := R.led.live _ hm; rw [fr] at e; cases e
  have ndx : st.heap.objs.size ∉ xs env := fun hm => by obtain ⟨o, e, _⟩ := R.soft _ hm; rw [fr] at e; cases e
  have nb : b.get? st.heap.objs.size = none := by
    cases e : b.get? st.heap.objs.size with
    | none => rfl
    | some x => rw [R.stays _ x e] at fr; cases fr
  have m₀ : Mid prog w b env ρ st ρ s { st with heap := st.heap.push { cls := .type "dict", data := .dict #[] } } := Mid.push (tk := st.toks) R _
  obtain ⟨o, ho, hd⟩ := Heap.dictOf_iff.mp (Heap.DictOf.new (knd := PySem.strKind prog w) st.heap)
  refine wpAny_Dict_walk (knd := PySem.strKind prog w) k1 (k3.trans hl) (fun e => by subst e; cases hk; exact h0 rfl) (k3 ▸ h15) ?_
  refine wpAny_mono (pairs_ok (st := { st with heap := st.heap.push { cls := .type "dict", data := .dict #[] } }) H O hA hk hl m₀.rel h) (fun ps st₁ hp => ?_) fun _ _ x => x
  obtain ⟨ρ₁, svs, s₁, us, m₁, q, ds, kk⟩ := hp
  have ed : st₁.heap.get? st.heap.objs.size = some o := m₁.ext.keep _ o ho ndx ndρ
  have ndρ₁ : st.heap.objs.size ∉ ρ₁ := m₁.ext.off ho ndρ
  obtain ⟨m', F₁, hh₁⟩ := m₁.rel.fr
  have hl' := q.length
  have soft : ∀ {h : Heap} {o : Obj} {kvs : List (Str × Value)}, h.get? st.heap.objs.size = some o → o.IsDictOf (PySem.strKind prog w) kvs → Soft h [st.heap.objs.size] := fun e x a hm => by
    rw [List.mem_singleton.mp hm]
    obtain ⟨es, ep, _, dd, _⟩ := x
    refine ⟨_, e, fun xs n _ q => ?_, fun vs _ q => ?_⟩ <;> (rw [dd] at q; cases q)
  refine display_done_str q.keys (by rw [q.pairs, zip_fst hl']; exact apartS_nodup ha) (Heap.dictOf_iff.mpr ⟨o, ed, hd⟩) fun h' hmm hsb => ?_
  obtain ⟨o', ho', hd'⟩ := Heap.dictOf_iff.mp hmm
  have kp : ∀ a o, a ≠ st.heap.objs.size → st₁.heap.get? a = some o → h'.get? a = some o := fun a o n e => (hsb.2 a n).trans e
  have nL : env.locals ≠ st.heap.objs.size := fun e => ndx (e ▸ List.mem_cons_self)
  have M := Mid.adopt (tk := st₁.toks + ps.length) (o := .sdict (names.zip svs)) (m₀.trans m₁) fr ndρ₁ ndx nb F₁.ns hh₁ (by obtain ⟨o, es, ep, e, r⟩ := F₁.ns; exact ⟨o, es, ep, kp _ o nL e, r⟩) (fun a o n _ e => kp a o n e) (soft ed hd) (soft ho' hd')
    fun x => .sdict ho' hd' (q.pairs ▸ kvs_zip ((ds.ext x fun a hm => by
      rcases List.mem_cons.mp hm with rfl | hm
      · exact m₁.rel.soft _ List.mem_cons_self
      · exact soft ed hd a hm).more (soft ho' hd'))) hs
  exact ⟨_, _, _, M, den_new m₁.rel.led, kk⟩
end
section
variable {prog : Program} {w : World} {b : Heap} {env : Env} {A : Around} {ρ ρ' : List Addr} {s s' : St} {st st' : Shared} {C : Cfg} {B : Bun} {lv : Nat}
theorem andV_ok {pos : Pos} (H : BunOk prog w b lv B) (O : EnvOk env) (hA : AOk lv A) : ∀ {es : List Expr} {ρ : List Addr} {s : St} {st : Shared} {K : KV}, Rel prog w b env ρ s st.heap → andV B env.scope.names es s K →
    wpAny (model prog w) A (eval (.BoolOp .And es pos) env) (Post prog w b env ρ st K) F0 st
  | [], _, _, _, _, _, h => h.elim
  | [e], _, _, _, _, R, h => BoolOp_one (H.ev O hA R h)
  | e :: e2 :: r, ρ, s, st, K, R, h => by
    refine BoolOp_and (H.evk O hA R h fun v st₁ ρ₁ sv s₁ m₁ d₁ k₁ => ?_)
    refine wpAny_mono (truth_ok m₁.rel d₁ k₁) (fun c st₂ hc => ?_) fun _ _ x => x
    obtain ⟨hb, m₂⟩ := hc
    have m := m₁.trans m₂
    cases c with
    | true => exact wpAny_mono (andV_ok H O hA m.rel hb) (fun _ _ x => x.trans m) fun _ _ x => x
    | false => exact ⟨ρ₁, sv, s₁, m, d₁.mid m₂ m₁.rel, hb⟩
theorem orV_ok {pos : Pos} (H : BunOk prog w b lv B) (O : EnvOk env) (hA : AOk lv A) : ∀ {es : List Expr} {ρ : List Addr} {s : St} {st : Shared} {K : KV}, Rel prog w b env ρ s st.heap → orV B env.scope.names es s K →
    wpAny (model prog w) A (eval (.BoolOp .Or es pos) env) (Post prog w b env ρ st K) F0 st
  | [], _, _, _, _, _, h => h.elim
  | [e], _, _, _, _, R, h => BoolOp_one (H.ev O hA R h)
  | e :: e2 :: r, ρ, s, st, K, R, h => by
    refine BoolOp_or (H.evk O hA R h fun v st₁ ρ₁ sv s₁ m₁ d₁ k₁ => ?_)
    refine wpAny_mono (truth_ok m₁.rel d₁ k₁) (fun c st₂ hc => ?_) fun _ _ x => x
    obtain ⟨hb, m₂⟩ := hc
    have m := m₁.trans m₂
    cases c with
    | false => exact wpAny_mono (orV_ok H O hA m.rel hb) (fun _ _ x => x.trans m) fun _ _ x => x
    | true => exact ⟨ρ₁, sv, s₁, m, d₁.mid m₂ m₁.rel, hb⟩
theorem andW_ok {pos : Pos} {whole : Sem Value} (H : BunOk prog w b lv B) (O : EnvOk env) (hA : AOk lv A) : ∀ {es : List Expr} {ρ : List Addr} {s : St} {st : Shared} {K : Bool → St → Prop}, Rel prog w b env ρ s st.heap → andW B env.scope.names es s K →
    wpAny (model prog w) A (isTrue (.BoolOp .And es pos) env whole) (PostB prog w b env ρ st K) F0 st
  | [], ρ, s, st, K, R, h => isTrue_and_nil ⟨ρ, s, .refl R, h⟩
  | e :: r, ρ, s, st, K, R, h => by
    refine isTrue_and (H.tstk O hA R h fun c st₁ ρ₁ s₁ m₁ k₁ => ?_)
    cases c with
    | true => exact wpAny_mono (andW_ok H O hA m₁.rel k₁) (fun _ _ x => x.trans m₁) fun _ _ x => x
    | false => exact ⟨ρ₁, s₁, m₁, k₁⟩
theorem orW_ok {pos : Pos} {whole : Sem Value} (H : BunOk prog w b lv B) (O : EnvOk env) (hA : AOk lv A) : ∀ {es : List Expr} {ρ : List Addr} {s : St} {st : Shared} {K : Bool → St → Prop}, Rel prog w b env ρ s st.heap → orW B env.scope.names es s K →
    wpAny (model prog w) A (isTrue (.BoolOp .Or es pos) env whole) (PostB prog w b env ρ st K) F0 st
  | [], ρ, s, st, K, R, h => isTrue_or_nil ⟨ρ, s, .refl R, h⟩
  | e :: r, ρ, s, st, K, R, h => by
    refine isTrue_or (H.tstk O hA R h fun c st₁ ρ₁ s₁ m₁ k₁ => ?_)
    cases c with
    | false => exact wpAny_mono (orW_ok H O hA m₁.rel k₁) (fun _ _ x => x.trans m₁) fun _ _ x => x
    | true => exact ⟨ρ₁, s₁, m₁, k₁⟩
/-- one comparison: two values and the operator -/
theorem cmpTwo_ok {l r : Expr} {op : CmpOp} {K : Bool → St → Prop} (H : BunOk prog w b lv B) (O : EnvOk env) (hA : AOk lv A) (R : Rel prog w b env ρ s st.heap)
    (h : B.ev env.scope.names l s fun a s₁ => B.ev env.scope.names r s₁ fun c s₂ => cmp op s₂.led a c fun c => K c s₂) :
    wpAny (model prog w) A (eval l env) (fun a s₁ => wpAny (model prog w) A (eval r env) (fun c s₂ => wpAny (model prog w) A (compareOp op a c) (fun v st' => ∃ c, v = .bool c ∧ PostB prog w b env ρ st K c st') F0 s₂) F0 s₁) F0 st := by
  refine H.evk O hA R h fun v st₁ ρ₁ sv s₁ m₁ d₁ k₁ => ?_
  refine H.evk O hA m₁.rel k₁ fun u st₂ ρ₂ su s₂ m₂ d₂ k₂ => ?_
  refine wpAny_mono (cmp_ok hA m₂.rel (d₁.mid m₂ m₁.rel) d₂ k₂) (fun v st₃ hc => ?_) fun _ _ x => x
  obtain ⟨c, rfl, hk, m₃⟩ := hc
  exact ⟨c, rfl, ρ₂, s₂, (m₁.trans m₂).trans m₃, hk⟩
/-- x != [] -/
theorem neNil_ok {l r : Expr} {op : CmpOp} {K : Bool → St → Prop} (H : BunOk prog w b lv B) (O : EnvOk env) (hA : AOk lv A) (R : Rel prog w b env ρ s st.heap) (hr : isNilE r = true)
    (h : B.ev env.scope.names l s fun a s₁ => neNil op s₁.led a fun c => K c s₁) :
    wpAny (model prog w) A (eval l env) (fun a s₁ => wpAny (model prog w) A (eval r env) (fun c s₂ => wpAny (model prog w) A (compareOp op a c) (fun v st' => ∃ c, v = .bool c ∧ PostB prog w b env ρ st K c st') F0 s₂) F0 s₁) F0 st := by
  refine H.evk O hA R h fun v st₁ ρ₁ sv s₁ m₁ d₁ k₁ => ?_
  cases r <;> first | (cases hr; done) | skip
  rename_i es pos
  cases es <;> first | (cases hr; done) | skip
  cases op <;> first | exact k₁.elim | skip
  cases sv <;> first | exact k₁.elim | skip
  replace k₁ : match itemOf s₁.led _ with | .some (.ints xs) => K (!decide (xs = [])) s₁ | _ => False := k₁
  split at k₁ <;> first | exact k₁.elim | skip
  rename_i xs q
  obtain ⟨a, vs, n, rfl, ea, hg, dd⟩ := list_at m₁.rel d₁ q
  refine List_ (args_nil (wpAny_newList ?_ (Nat.zero_le _)))
  exact PySem.W.ke_ne_ints (isList_of (Heap.get?_push_of_some _ hg)) (isList_of (n := 0) (Heap.get?_push_size _ rfl)) (Dens.ints dd) .nil (by have := hA.2.2.1; omega) ⟨_, rfl, ρ₁, s₁, m₁.trans (Mid.push (tk := st₁.toks) m₁.rel _), k₁⟩
theorem cmpOne_ok {l : Expr} {op : CmpOp} {rs : List Expr} {K : Bool → St → Prop} (H : BunOk prog w b lv B) (O : EnvOk env) (hA : AOk lv A) (R : Rel prog w b env ρ s st.heap) (h : cmpW B env.scope.names l [op] rs s K) : ∃ r, rs = [r] ∧ behindInMarks op r = false ∧
    wpAny (model prog w) A (eval l env) (fun a s₁ => wpAny (model prog w) A (eval r env) (fun c s₂ => wpAny (model prog w) A (compareOp op a c) (fun v st' => ∃ c, v = .bool c ∧ PostB prog w b env ρ st K c st') F0 s₂) F0 s₁) F0 st := by
  unfold cmpW at h
  cases rs with
  | nil => exact h.elim
  | cons r rs =>
    cases rs with
    | cons _ _ => exact h.elim
    | nil =>
      try dsimp only at h
      cases q : markE op r with
      | true => rw [q] at h; exact h.elim
      | false =>
        rw [q] at h
        refine ⟨r, rfl, q, ?_⟩
        cases q2 : isNilE r with
        | true => rw [q2] at h; exact neNil_ok H O hA R q2 h
        | false => rw [q2] at h; exact cmpTwo_ok H O hA R h
theorem cmpTst_ok {l : Expr} {ops : List CmpOp} {rs : List Expr} {pos : Pos} {whole : Sem Value} {K : Bool → St → Prop} (H : BunOk prog w b lv B) (O : EnvOk env) (hA : AOk lv A) (R : Rel prog w b env ρ s st.heap)
    (h : cmpW B env.scope.names l ops rs s K) : wpAny (model prog w) A (isTrue (.Compare l ops rs pos) env whole) (PostB prog w b env ρ st K) F0 st := by
  cases ops with
  | nil => exact h.elim
  | cons op ops =>
    cases ops with
    | nil =>
      obtain ⟨r, rfl, hm, h⟩ := cmpOne_ok H O hA R h
      refine wpAny_isTrue_Compare1 (wpAny_mono h (fun a s₁ h₁ => wpAny_mono h₁ (fun c s₂ h₂ => wpAny_mono h₂ (fun v s₃ h₃ => ?_) fun _ _ x => x) fun _ _ x => x) fun _ _ x => x) hm
      obtain ⟨c, rfl, p⟩ := h₃
      exact wpAny_truthy_bool p
    | cons op2 ops =>
      unfold cmpW at h
      cases rs with
      | nil => exact h.elim
      | cons r rs =>
        cases ops with
        | cons _ _ => exact h.elim
        | nil =>
          cases rs with
          | nil => exact h.elim
          | cons r2 rs =>
            cases rs with
            | cons _ _ => exact h.elim
            | nil =>
              try dsimp only at h
              cases q : markE op2 r2 with
              | true => rw [q] at h; exact h.elim
              | false =>
                rw [q] at h; dsimp only at h
                refine isTrue_chain (H.evk O hA R h fun v st₁ ρ₁ sv s₁ m₁ d₁ k₁ => ?_) q
                refine test_link (H.evk O hA m₁.rel k₁ fun u st₂ ρ₂ su s₂ m₂ d₂ k₂ => ?_)
                refine wpAny_mono (cmp_ok hA m₂.rel (d₁.mid m₂ m₁.rel) d₂ k₂) (fun v st₃ hc => ?_) fun _ _ x => x
                obtain ⟨c, rfl, hk, m₃⟩ := hc
                refine wpAny_truthy_bool ?_
                have m := (m₁.trans m₂).trans m₃
                cases c with
                | false => exact ⟨ρ₂, s₂, m, hk⟩
                | true =>
                  refine test_last (H.evk O hA m₃.rel hk fun z st₄ ρ₄ sz s₄ m₄ d₄ k₄ => ?_)
                  refine wpAny_mono (cmp_ok hA m₄.rel (d₂.mid (m₃.trans m₄) m₂.rel) d₄ k₄) (fun v st₅ hc => ?_) fun _ _ x => x
                  obtain ⟨c2, rfl, hk2, m₅⟩ := hc
                  exact wpAny_truthy_bool ⟨ρ₄, s₄, (m.trans m₄).trans m₅, hk2⟩
noncomputable def CompOk (prog : Program) (w : World) (b : Heap) (lv : Nat) (C : Cfg) (B : Bun) : Prop := ∀ {env : Env} {A : Around} {ρ : List Addr} {s : St} {st : Shared} {elt : Expr} {gens : List Comprehension} {scope : Scope} {pos : Pos} {K : KV},
  EnvOk env → AOk lv A → Rel prog w b env ρ s st.heap → compW C B env.scope.names elt gens scope s K → wpAny (model prog w) A (eval (.ListComp elt gens scope pos) env) (Post prog w b env ρ st K) F0 st
theorem hasSpec_mem : ∀ {l : List (Nat × Spec)} {a : Nat}, hasSpec l a = true → ∃ p ∈ l, p.1 = a
  | [], _, h => by cases h
  | p :: r, a, h => by
    unfold hasSpec at h
    cases q : Nat.beq p.1 a with
    | true => exact ⟨p, List.mem_cons_self, Nat.eq_of_beq_eq_true q⟩
    | false =>
      rw [q] at h
      obtain ⟨p', hp, e⟩ := hasSpec_mem h
      exact ⟨p', List.mem_cons_of_mem _ hp, e⟩
theorem plainCall_ok {a : Expr} {r : List Expr} {pos : Pos} {u : SV} {f : Value} {K : KV} (S : Sta prog w b) (HC : ∀ p ∈ C.call, SpecOk prog w b lv p.1 p.2) (H : BunOk prog w b lv B) (O : EnvOk env) (hA : AOk lv A) (R : Rel prog w b env ρ s st.heap) (d : Den st.heap ρ u f) (hn : noStar (a :: r) = true)
    (h : callKind C u fun _ => evsW B env.scope.names (a :: r) s fun vs s'' => callV C u vs s'' K) : wpAny (model prog w) A (callWith pos f [] (backTo pos (starEach (a :: r) env)) []) (Post prog w b env ρ st K) F0 st := by
  obtain ⟨n1, n2⟩ := noStar_cons hn
  cases u <;> first | exact False.elim h | (unfold callKind at h; try dsimp only at h)
  · rename_i c
    try dsimp only at h
    split at h <;> first | exact h.elim | skip
    rename_i hc
    cases d
    refine callWith_K (S.K.keeps R.stays) (keep_of HC (hasSpec_mem hc)) (wpAny_mono (evs_ok H O hA hn R h) (fun vs st₁ hv => ?_) fun _ _ x => x) (starEach_cons n1) (noStar_any n2)
    obtain ⟨ρ₁, svs, s₁, m₁, d₁, k₁⟩ := hv
    exact ⟨S.K.keeps m₁.rel.stays, wpAny_mono (call_ok HC hA m₁.rel d₁ k₁) (fun _ _ x => x.trans m₁) fun _ _ x => x⟩
  · cases d
    cases f <;> first | exact h.elim | skip
    · rename_i T
      refine PyProof.Rows.callWith_type1 (wpAny_mono (evs_ok H O hA hn R h) (fun vs st₁ hv => ?_) fun _ _ x => x) (starEach_cons n1) (noStar_any n2)
      obtain ⟨ρ₁, svs, s₁, m₁, d₁, k₁⟩ := hv
      exact wpAny_mono (type_ok m₁.rel d₁ k₁) (fun _ _ x => x.trans m₁) fun _ _ x => x
    · rename_i id
      refine callWith_builtin1 (wpAny_mono (evs_ok H O hA hn R h) (fun vs st₁ hv => ?_) fun _ _ x => x) (starEach_cons n1) (noStar_any n2)
      obtain ⟨ρ₁, svs, s₁, m₁, d₁, k₁⟩ := hv
      exact wpAny_mono (builtin_ok S hA m₁.rel d₁ k₁) (fun _ _ x => x.trans m₁) fun _ _ x => x
theorem methCall_ok {o a : Expr} {r : List Expr} {name : Str} {apos pos : Pos} {K : KV} (H : BunOk prog w b lv B) (O : EnvOk env) (hA : AOk lv A) (R : Rel prog w b env ρ s st.heap) (hn : noStar (a :: r) = true) (ho : isCallE o = false) (hp : apos.endLine = pos.line) (hz : (a :: r).length ≤ 20)
    (h : B.ev env.scope.names o s fun u s' => methKind u name s' fun _ => evsW B env.scope.names (a :: r) s' fun vs s'' => method u name vs s'' K) :
    wpAny (model prog w) A (eval (.Call (.Attribute o name apos) (a :: r) [] pos) env) (Post prog w b env ρ st K) F0 st := by
  obtain ⟨n1, n2⟩ := noStar_cons hn
  have form : methodCallForm ((a :: r).length + 0) (backTo pos (starEach (a :: r) env)) (backToKw pos []) = true := by
    unfold methodCallForm
    have : (backTo pos (starEach (a :: r) env)).all (fun x => !x.1) = true := by
      have q := noStar_any (pos := pos) (env := env) hn
      rw [List.any_eq_false] at q
      rw [List.all_eq_true]
      intro x hx
      simpa using q x hx
    rw [this]
    simp [backToKw]
    simp only [List.length_cons] at hz
    omega
  show wpAny (model prog w) A (do
    let ov ← attributeBase o name env (eval o env)
    standAt apos.atName
    methodCall o name apos pos env ov ((a :: r).length + 0) (backTo pos (starEach (a :: r) env)) (backToKw pos [])) _ _ _
  rw [attributeBase_plain ho]
  refine wpAny_bind (H.evk O hA R h fun v st₁ ρ₁ sv s₁ m₁ d₁ k₁ => ?_)
  refine wpAny_bind (wpAny_standAt ?_)
  unfold methodCall
  rw [form]
  obtain ⟨k₂, g⟩ := methGet_ok (A := A) (pl := (do return (← importBound o env).getD true)) m₁.rel d₁ k₁
  refine wpAny_bind (wpAny_holding ?_)
  show wpAny (model prog w) A (getMethod v name (do return (← importBound o env).getD true)) _ _ _
  refine g _ ?_
  unfold methodCallPos
  rw [if_pos (by simp [hp])]
  refine wpAny_bind (wpAny_pure ?_)
  refine callWith_method1 (wpAny_mono (evs_ok H O hA hn m₁.rel k₂) (fun vs st₂ hvs => ?_) fun _ _ x => x) (starEach_cons n1) (noStar_any n2)
  obtain ⟨ρ₂, svs, s₂, m₂, d₂, k₃⟩ := hvs
  exact wpAny_mono (method_ok m₂.rel (d₁.mid m₂ m₁.rel) d₂ k₃) (fun _ _ x => x.trans (m₁.trans m₂)) fun _ _ x => x
end
section
variable {prog : Program} {w : World} {b : Heap} {env : Env} {A : Around} {ρ ρ' : List Addr} {s s' : St} {st st' : Shared} {C : Cfg} {B : Bun} {lv : Nat}
theorem sub_ok {value slice : Expr} {pos : Pos} {K : KV} (HB : ∀ v xs, C.bl v xs → ∃ a vs, v = .ref a ∧ b.IsList a (List.toArray vs) ∧ IntsAre vs xs) (H : BunOk prog w b lv B) (O : EnvOk env) (hA : AOk lv A) (R : Rel prog w b env ρ s st.heap)
    (h : B.ev env.scope.names value s fun u s' => subW C.bl B env.scope.names (isName value) u slice s' K) : wpAny (model prog w) A (eval (.Subscript value slice pos) env) (Post prog w b env ρ st K) F0 st := by
  refine Subscript_ (H.evk O hA R h fun u st₁ ρ₁ su s₁ m₁ d₁ k₁ => ?_)
  have plain : isSlice slice = false → (match litIdx slice with
      | some k => atLit su k s₁ K
      | none => B.ev env.scope.names slice s₁ fun iv s' => atW su iv s' K) → wpAny (model prog w) A (eval slice env) (fun i s₂ => wpAny (model prog w) A (subscriptTail value slice u i) (Post prog w b env ρ st K) F0 s₂) F0 st₁ := fun hs hk => by
    cases q : litIdx slice with
    | some k =>
      rw [q] at hk
      obtain ⟨n, p, rfl⟩ := litIdx_eq q
      refine wpAny_Constant_int ?_
      exact wpAny_mono (atLit_ok (st := { st₁ with toks := st₁.toks + 1 }) m₁.rel d₁ rfl hk) (fun _ _ x => (x.trans (Mid.toks m₁.rel _)).trans m₁) fun _ _ x => x
    | none =>
      rw [q] at hk
      refine H.evk O hA m₁.rel hk fun i st₂ ρ₂ si s₂ m₂ d₂ k₂ => ?_
      exact wpAny_mono (atW_ok m₂.rel (d₁.mid m₂ m₁.rel) d₂ hs k₂) (fun _ _ x => x.trans (m₁.trans m₂)) fun _ _ x => x
  unfold subW at k₁
  cases slice <;> first | exact plain rfl k₁ | skip
  rename_i lo hi step p
  cases step with
  | some _ => exact k₁.elim
  | none => exact wpAny_mono (slice_ok m₁.rel d₁ HB k₁) (fun i s₂ h₂ => wpAny_mono h₂ (fun _ _ x => x.trans m₁) fun _ _ x => x) fun _ _ x => x
theorem litSub_ok {v i : Expr} {p : List Expr × Str} {pos : Pos} {K : KV} (S : Sta prog w b) (G : GlOk w C.gl) (H : BunOk prog w b lv B) (O : EnvOk env) (hA : AOk lv A) (R : Rel prog w b env ρ s st.heap) (q : litSub v i = some p) (hz : Nat.ble p.1.length 1000 = true) (hn : noStar p.1 = true)
    (h : evsW B env.scope.names p.1 s fun vs s' => nameW C env.scope.names p.2 s' fun iv s'' => atList vs iv fun y => K y s'') : wpAny (model prog w) A (eval (.Subscript v i pos) env) (Post prog w b env ρ st K) F0 st := by
  unfold litSub at q
  cases v <;> first | (cases q; done) | skip
  cases i <;> first | (cases q; done) | skip
  cases q
  have hz := Nat.le_of_ble_eq_true hz
  refine Subscript_ (List_ (wpAny_mono (evs_okL H O hA hn R h) (fun vs st₁ hv => wpAny_newList ?_ ?_) fun _ _ x => x))
  · obtain ⟨hl, ρ₁, svs, s₁, m₁, d₁, k₁⟩ := hv
    have mp := Mid.push (tk := st₁.toks) m₁.rel { cls := .type "list", data := .seq vs.toArray }
    refine name_okQ S G O mp.rel k₁ fun iv u k d => ?_
    cases iv <;> first | exact k.elim | skip
    cases d
    have hg : (st₁.heap.push { cls := .type "list", data := .seq vs.toArray }).get? st₁.heap.objs.size = some (PySem.W.listOf (List.toArray vs) 0) := Heap.get?_push_size _ rfl
    obtain ⟨x, y, ev, dv, hk, h0, h1⟩ := item_ok (st := { st₁ with heap := st₁.heap.push { cls := .type "list", data := .seq vs.toArray } }) (l := .lit svs) (t := 0) hg (d₁.mid mp m₁.rel) k
    exact tail_any (list_typeIs hg) PySem.slot_list_getitem.lookup (wpAny_getItem_list (isList_of hg) h0 (by omega) (by simpa using ev) ⟨ρ₁, x, _, m₁.trans mp, dv, hk⟩) (subscripted_plain rfl)
  · rw [hv.1]; simp only [sizeLine]; dsimp only at hz; omega
theorem ev_step {e : Expr} {K : KV} (HB : ∀ v xs, C.bl v xs → ∃ a vs, v = .ref a ∧ b.IsList a (List.toArray vs) ∧ IntsAre vs xs) (S : Sta prog w b) (G : GlOk w C.gl) (HC : ∀ p ∈ C.call, SpecOk prog w b lv p.1 p.2) (H : BunOk prog w b lv B) (Hc : CompOk prog w b lv C B) (O : EnvOk env) (hA : AOk lv A) (R : Rel prog w b env ρ s st.heap)
    (h : evW C B env.scope.names e s K) : wpAny (model prog w) A (eval e env) (Post prog w b env ρ st K) F0 st := by
  cases e <;> first | exact False.elim h | (unfold evW at h; try dsimp only at h)
  · -- BoolOp
    rename_i op vs pos
    cases op with
    | And => exact andV_ok H O hA R h
    | Or => exact orV_ok H O hA R h
  · -- BinOp
    rename_i l op r pos
    refine wpAny_BinOp (H.evk O hA R h fun v st₁ ρ₁ sv s₁ m₁ d₁ k₁ => ?_)
    refine H.evk O hA m₁.rel k₁ fun u st₂ ρ₂ su s₂ m₂ d₂ k₂ => ?_
    exact wpAny_mono (binop_ok S hA m₂.rel (d₁.mid m₂ m₁.rel) d₂ k₂) (fun _ _ x => x.trans (m₁.trans m₂)) fun _ _ x => x
  · -- UnaryOp
    rename_i op x pos
    cases op <;> first | exact h.elim | skip
    refine UnaryOp_ (H.evk O hA R h fun v st₁ ρ₁ sv s₁ m₁ d₁ k₁ => ?_)
    cases sv <;> first | exact k₁.elim | skip
    cases d₁
    exact neg_int ⟨ρ₁, _, s₁, m₁.trans (.toks m₁.rel _), .int _ _, k₁⟩
  · -- IfExp
    rename_i t x y pos
    try dsimp only at h
    split at h
    · rename_i p q
      unfold twoLit at q
      split at q <;> first | (cases q; done) | skip
      rename_i i qi
      split at q <;> first | (cases q; done) | skip
      rename_i j qj
      cases q
      obtain ⟨_, _, rfl⟩ := litIdx_eq qi
      obtain ⟨_, _, rfl⟩ := litIdx_eq qj
      refine IfExp_ (H.tstk O hA R h fun c st₁ ρ₁ s₁ m₁ k₁ => ?_)
      cases c <;> exact wpAny_Constant_int ⟨ρ₁, _, s₁, m₁.trans (.toks m₁.rel _), .int _ _, k₁⟩
    refine IfExp_ (H.tstk O hA R h fun c st₁ ρ₁ s₁ m₁ k₁ => ?_)
    cases c with
    | true => exact wpAny_mono (H.ev O hA m₁.rel k₁) (fun _ _ x => x.trans m₁) fun _ _ x => x
    | false => exact wpAny_mono (H.ev O hA m₁.rel k₁) (fun _ _ x => x.trans m₁) fun _ _ x => x
  · -- Dict
    rename_i ks vs pos
    try dsimp only at h
    split at h <;> first | exact h.elim | skip
    rename_i names q
    split at h <;> first | exact h.elim | skip
    rename_i q1
    split at h <;> first | exact h.elim | skip
    rename_i q2
    split at h <;> first | exact h.elim | skip
    rename_i q3
    split at h <;> first | exact h.elim | skip
    exact dict_ok S H O hA R q (Nat.eq_of_beq_eq_true q1) (Nat.le_of_ble_eq_true q2) q3 (fun e => by cases e) h
  · -- ListComp
    exact Hc O hA R h
  · -- Compare
    rename_i l ops rs pos
    try dsimp only at h
    split at h <;> first | exact h.elim | skip
    rename_i op
    obtain ⟨r, rfl, hm, h⟩ := cmpOne_ok (K := fun c s' => K (.bool c) s') H O hA R h
    refine wpAny_Compare1 (wpAny_mono h (fun a s₁ h₁ => wpAny_mono h₁ (fun c s₂ h₂ => wpAny_mono h₂ (fun v s₃ h₃ => ?_) fun _ _ x => x) fun _ _ x => x) fun _ _ x => x) hm
    obtain ⟨c, rfl, ρ₁, s₁, m, k⟩ := h₃
    exact ⟨ρ₁, _, s₁, m, .bool c, k⟩
  · -- Call
    rename_i f args kws pos
    cases kws with
    | cons _ _ => exact h.elim
    | nil =>
      cases args with
      | nil => exact h.elim
      | cons a r =>
        try dsimp only at h
        split at h <;> first | exact h.elim | skip
        rename_i hn
        cases f <;> first | exact h.elim | skip
        · rename_i o name apos
          try dsimp only at h
          split at h <;> first | exact h.elim | skip
          rename_i ho
          split at h <;> first | exact h.elim | skip
          rename_i hp
          split at h <;> first | exact h.elim | skip
          rename_i hz
          exact methCall_ok H O hA R hn ho (Nat.eq_of_beq_eq_true hp) (Nat.le_of_ble_eq_true hz) h
        · rename_i x p
          refine Call_ (wpAny_mono (name_ok S G O R h) (fun v st₁ hv => ?_) fun _ _ x => x)
          obtain ⟨ρ₁, sv, s₁, m₁, d₁, k₁⟩ := hv
          exact wpAny_mono (plainCall_ok S HC H O hA m₁.rel d₁ hn k₁) (fun _ _ x => x.trans m₁) fun _ _ x => x
  · exact const_ok R h
  · -- Attribute
    rename_i v name pos
    try dsimp only at h
    split at h <;> first | exact h.elim | skip
    rename_i hv
    refine Attribute_any_ (wpAny_mono (H.ev O hA R h) (fun u st₁ hu => ?_) fun _ _ x => x) ?_
    · obtain ⟨ρ₁, su, s₁, m₁, d₁, k₁⟩ := hu
      split at k₁ <;> first | exact k₁.elim | skip
      rename_i x q
      exact wpAny_mono (attr_ok S m₁.rel d₁ q k₁) (fun _ _ x => x.trans m₁) fun _ _ x => x
    · show (do
        let o ← attributeBase v name env (eval v env)
        standAt pos.atName
        let r ← holding [o] (getAttr o name true)
        letTemporaryGo v o r
        pure r) = _
      rw [attributeBase_plain hv]
  · -- Subscript
    rename_i v i pos
    try dsimp only at h
    split at h
    · rename_i p q
      split at h <;> first | exact h.elim | skip
      rename_i hz
      split at h <;> first | exact h.elim | skip
      rename_i hn
      exact litSub_ok S G H O hA R q hz hn h
    · exact sub_ok HB H O hA R h
  · exact name_ok S G O R h
  · -- List
    rename_i es pos
    try dsimp only at h
    split at h <;> first | exact h.elim | skip
    rename_i hz
    split at h <;> first | exact h.elim | skip
    rename_i hn
    have hz := Nat.le_of_ble_eq_true hz
    refine List_ (wpAny_mono (evs_okL H O hA hn R h) (fun vs st₁ hv => ?_) fun _ _ x => x)
    obtain ⟨hl, ρ₁, svs, s₁, m₁, d₁, k₁⟩ := hv
    exact wpAny_mono (new_list (l := .lit svs) m₁.rel d₁ (by simp only [sizeLine]; omega) k₁) (fun _ _ x => x.trans m₁) fun _ _ x => x
  · -- Tuple
    rename_i es k pos
    try dsimp only at h
    split at h <;> first | exact h.elim | skip
    rename_i hz
    split at h <;> first | exact h.elim | skip
    rename_i hn
    have hz := Nat.le_of_ble_eq_true hz
    refine Tuple_ (wpAny_mono (evs_okL H O hA hn R h) (fun vs st₁ hv => ?_) fun _ _ x => x)
    obtain ⟨hl, ρ₁, svs, s₁, m₁, d₁, k₁⟩ := hv
    exact wpAny_mono (tuple_ok m₁.rel d₁ (by simp only [sizeLine]; omega) k₁) (fun _ _ x => x.trans m₁) fun _ _ x => x
theorem tst_step {e : Expr} {K : Bool → St → Prop} (H : BunOk prog w b lv B) (O : EnvOk env) (hA : AOk lv A) (R : Rel prog w b env ρ s st.heap)
    (h : tstW B env.scope.names e s K) : wpAny (model prog w) A (isTrue e env (eval e env)) (PostB prog w b env ρ st K) F0 st := by
  have plain : B.ev env.scope.names e s (fun v s' => truthW v s' fun c => K c s') → (isTrue e env (eval e env) = (do let v ← eval e env; standAt e.pos; holding [v] (truthy v))) → wpAny (model prog w) A (isTrue e env (eval e env)) (PostB prog w b env ρ st K) F0 st := fun h he => by
    refine isTrue_plain (H.evk O hA R h fun v st₁ ρ₁ sv s₁ m₁ d₁ k₁ => ?_) he
    exact wpAny_mono (truth_ok m₁.rel d₁ k₁) (fun c _ x => ⟨ρ₁, s₁, m₁.trans x.2, x.1⟩) fun _ _ x => x
  unfold tstW at h
  cases e <;> first | exact plain h rfl | skip
  · rename_i op vs pos
    cases op with
    | And => exact andW_ok H O hA R h
    | Or => exact orW_ok H O hA R h
  · rename_i op x pos
    cases op <;> first | exact plain h rfl | skip
    exact isTrue_not (wpAny_mono (H.tst O hA R h) (fun _ _ x => x) fun _ _ x => x)
  · exact h.elim
  · exact cmpTst_ok H O hA R h
end
theorem agree_get : ∀ {t l : List (Str × SV)} {x : Str} {sv : SV}, agree t l → get t x = some sv → get l x = some sv
  | p :: r, l, x, sv, h, e => by
    unfold get at e
    cases q : strEq p.1 x with
    | true => rw [q] at e; cases e; rw [← strEq_iff.mp q]; exact h.1
    | false => rw [q] at e; exact agree_get h.2 e
noncomputable def St.leS (t s : St) : Prop := s.led = t.led ∧ ∀ x v, get t.loc x = some v → get s.loc x = some v
theorem St.le.toS {t s : St} (h : St.le t s) : St.leS t s := ⟨h.1, fun _ _ e => agree_get h.2 e⟩
theorem St.leS.refl (s : St) : St.leS s s := ⟨rfl, fun _ _ e => e⟩
section
variable {prog : Program} {w : World} {b : Heap} {env : Env} {A : Around} {ρ ρ' : List Addr} {s s' : St} {st st' : Shared} {C : Cfg} {B : Bun} {lv : Nat}
theorem Rel.weakS {t : St} {h : Heap} (R : Rel prog w b env ρ s h) (l : St.leS t s) : Rel prog w b env ρ t h := by
  obtain ⟨m, hn, hh⟩ := R.frame
  exact ⟨l.1 ▸ R.led, R.stays, ⟨m, hn, fun x sv e => hh x sv (l.2 x sv e)⟩, R.above, R.abc, R.off, R.inj⟩
theorem Mid.weakS {t : St} (M : Mid prog w b env ρ st ρ' s' st') (l : St.leS t s') : Mid prog w b env ρ st ρ' t st' := ⟨M.os, M.gens, M.ext, M.rel.weakS l⟩
theorem Rel.weak {t : St} {h : Heap} (R : Rel prog w b env ρ s h) (l : St.le t s) : Rel prog w b env ρ t h := by
  obtain ⟨m, hn, hh⟩ := R.frame
  exact ⟨l.1 ▸ R.led, R.stays, ⟨m, hn, fun x sv e => hh x sv (agree_get l.2 e)⟩, R.above, R.abc, R.off, R.inj⟩
theorem Mid.weak {t : St} (M : Mid prog w b env ρ st ρ' s' st') (l : St.le t s') : Mid prog w b env ρ st ρ' t st' := ⟨M.os, M.gens, M.ext, M.rel.weak l⟩
theorem store_ok {x : Str} {v : SV} {u : Value} {K : St → Prop} (O : EnvOk env) (R : Rel prog w b env ρ s st.heap) (d : Den st.heap ρ v u) (h : storeW env.scope.names x v s K) :
    wpAny (model prog w) A (storeName env x u) (PostU prog w b env ρ st K) F0 st := by
  unfold storeW at h
  cases ek : get env.scope.names x with
  | none => rw [ek] at h; exact h.elim
  | some kd =>
    rw [ek] at h
    have hk : env.kindOf x = some kd := by rw [kindOf_get]; exact ek
    cases kd <;> first | exact h.elim | skip
    · -- local
      obtain ⟨m, F, hh⟩ := R.fr
      refine wpAny_storeName_local hk F.ns (fun h' hn hs => ?_) (by rw [O.kind]; rfl)
      have kp : ∀ a o, a ≠ env.locals → st.heap.get? a = some o → h'.get? a = some o := fun a o n e => (hs.2 a n).trans e
      have x' : Ext [env.locals] ρ st.heap ρ h' := ⟨fun _ _ e => e, fun a o e n _ => kp a o (by simpa using n) e, fun _ m n => absurd m n, fun a o e n => ⟨o, kp a o (by simpa using n) e⟩⟩
      have sx : Soft st.heap [env.locals] := fun a hm => R.soft a (xs_one a hm)
      have nl : ∀ a o, st.heap.get? a = some o → a ≠ env.locals → h'.get? a = some o := fun a o e n => kp a o n e
      have cell : ∀ c v, st.heap.IsCell c v → h'.IsCell c v := fun c v hc => by
        obtain ⟨o, e, dd⟩ := id hc
        exact ⟨o, nl c o e (cell_ne F.ns hc), dd⟩
      refine ⟨ρ, { s with loc := put s.loc x v }, ⟨rfl, rfl, x'.mono xs_one, ⟨R.led.ext x' sx (fun a hm o => kp a o (led_ne R hm)) rfl, fun a o e => ?_, ⟨_, hn, fun y sv e => ?_⟩, R.above, fun c hc => ?_, R.off, R.inj⟩⟩, h⟩
      · refine nl a o (R.stays a o e) (fun q => ?_)
        rw [q, R.xnone _ List.mem_cons_self] at e; cases e
      · rw [get_put] at e
        cases q : strEq x y with
        | true =>
          rw [q] at e; cases e
          have q := strEq_iff.mp q
          subst q
          exact ⟨u, d.ext x' sx, .inl ⟨hk, if_pos rfl⟩⟩
        | false =>
          rw [q] at e
          obtain ⟨v', dv, kk⟩ := hh y sv e
          refine ⟨v', dv.ext x' sx, kk.imp (fun ⟨a, c⟩ => ⟨a, ?_⟩) fun ⟨a, c, ec, hc⟩ => ⟨a, c, ec, cell c _ hc⟩⟩
          exact (if_neg fun e => strEq_ne q e.symm).trans c
      · obtain ⟨k1, v', hcl⟩ := R.abc c hc
        exact ⟨k1, v', cell c v' hcl⟩
    · -- cell
      obtain ⟨c, hc⟩ := Option.isSome_iff_exists.mp (O.cells x hk)
      obtain ⟨hbc, v0, hv0⟩ := R.abc c (cells_mem hc)
      refine wpAny_storeName_cell O.kind hk hc hv0 fun h' hcl hs => ?_
      obtain ⟨m, F, hh⟩ := R.fr
      have kp : ∀ a o, a ≠ c → st.heap.get? a = some o → h'.get? a = some o := fun a o n e => (hs.2 a n).trans e
      have x' : Ext [c] ρ st.heap ρ h' := ⟨fun _ _ e => e, fun a o e n _ => kp a o (by simpa using n) e, fun _ m n => absurd m n, fun a o e n => ⟨o, kp a o (by simpa using n) e⟩⟩
      have cx : c ∈ xs env := List.mem_cons_of_mem _ (cells_mem hc)
      have sub : ∀ a ∈ [c], a ∈ xs env := fun a hm => by rw [List.mem_singleton.mp hm]; exact cx
      have sx : Soft st.heap [c] := fun a hm => R.soft a (sub a hm)
      have nc : c ≠ env.locals := cell_ne F.ns hv0
      have nρ : ∀ a ∈ ρ, a ≠ c := fun a ha e => R.off c cx (e ▸ ha)
      refine ⟨ρ, { s with loc := put s.loc x v }, ⟨rfl, rfl, x'.mono sub, ⟨R.led.ext x' sx (fun a hm o => kp a o (nρ a hm)) rfl, fun a o e => ?_, ⟨m, ?_, fun y sv e => ?_⟩, R.above, fun c' hc' => ?_, R.off, R.inj⟩⟩, h⟩
      · refine kp a o (fun q => ?_) (R.stays a o e)
        rw [q, hbc] at e; cases e
      · obtain ⟨o, es, ep, e, r⟩ := F.ns
        exact ⟨o, es, ep, kp _ o (Ne.symm nc) e, r⟩
      · rw [get_put] at e
        cases q : strEq x y with
        | true =>
          rw [q] at e; cases e
          have q := strEq_iff.mp q
          subst q
          exact ⟨u, d.ext x' sx, .inr ⟨.inl hk, c, hc, hcl⟩⟩
        | false =>
          rw [q] at e
          obtain ⟨v', dv, kk⟩ := hh y sv e
          refine ⟨v', dv.ext x' sx, kk.imp id fun ⟨a, c', ec, o, eo, dd⟩ => ⟨a, c', ec, o, kp c' o (fun e => ?_) eo, dd⟩⟩
          subst e
          exact strEq_ne q (R.inj x y c' hc ec)
      · obtain ⟨k1, v', o, eo, dd⟩ := R.abc c' hc'
        by_cases q : c' = c
        · subst q; exact ⟨k1, _, hcl⟩
        · exact ⟨k1, v', o, kp c' o q eo, dd⟩
theorem bind_ok {x : Str} {v : SV} {u : Value} {K : St → Prop} (O : EnvOk env) (R : Rel prog w b env ρ s st.heap) (d : Den st.heap ρ v u) (h : storeW env.scope.names x v s K) :
    wpAny (model prog w) A (bindName env x u) (PostU prog w b env ρ st K) F0 st := bindName_ (store_ok O R d h)
theorem isLocal_store {x : Str} {v : SV} {K : St → Prop} (h : isLocal env.scope.names x = true) (k : K { s with loc := put s.loc x v }) : storeW env.scope.names x v s K := by
  unfold isLocal at h
  unfold storeW
  cases e : get env.scope.names x with
  | none => rw [e] at h; cases h
  | some kd => rw [e] at h; cases kd <;> first | exact k | cases h
theorem putAll_ok (O : EnvOk env) : ∀ {xs : List Str} {vs : List SV} {us : List Value} {ρ : List Addr} {s : St} {st : Shared} {K : St → Prop}, Rel prog w b env ρ s st.heap → Dens st.heap ρ vs us → putAll env.scope.names xs vs s K →
    wpAny (model prog w) A (assignInOrder (xs.map fun n => bindName env n) us) (PostU prog w b env ρ st K) F0 st
  | [], [], _, ρ, s, st, K, R, .nil, h => assignInOrder_nil ⟨ρ, s, .refl R, h⟩
  | [], _ :: _, _, _, _, _, _, _, .cons _ _, h => h.elim
  | _ :: _, [], _, _, _, _, _, _, .nil, h => h.elim
  | x :: xs, v :: vs, _, ρ, s, st, K, R, .cons a c, h => by
    unfold putAll at h
    cases q : isLocal env.scope.names x with
    | false => rw [q] at h; exact h.elim
    | true =>
      rw [q] at h
      refine assignInOrder_cons (wpAny_mono (bind_ok O R a (isLocal_store (K := fun s' => putAll env.scope.names xs vs s' K) q h)) (fun _ st₁ hv => ?_) fun _ _ x => x)
      obtain ⟨ρ₁, s₁, m₁, k₁⟩ := hv
      exact wpAny_mono (putAll_ok O m₁.rel (c.mid m₁ R) k₁) (fun _ _ x => x.trans m₁) fun _ _ x => x
theorem assignEach_names {es : List Expr} : ∀ {xs : List Str}, namesOf es = some xs → (assignEach es env).map (·.2) = (es.map fun e v => assign e env v) ∧ (assignEach es env).findIdx? (·.1) = none ∧ (assignEach es env).length = xs.length := by
  induction es with
  | nil => intro xs h; cases h; exact ⟨rfl, rfl, rfl⟩
  | cons e r ih =>
    intro xs h
    unfold namesOf at h
    cases e <;> first | (cases h; done) | skip
    rename_i x p
    try dsimp only at h
    cases q : namesOf r with
    | none => rw [q] at h; cases h
    | some l =>
      rw [q] at h; cases h
      obtain ⟨h1, h2, h3⟩ := ih q
      refine ⟨?_, ?_, congrArg Nat.succ h3⟩
      · show (assign (.Name x p) env) :: (assignEach r env).map (·.2) = _
        rw [h1]; rfl
      · show ((false, assign (.Name x p) env) :: assignEach r env).findIdx? (·.1) = none
        rw [List.findIdx?_cons, h2]; rfl
theorem putAllE_ok (O : EnvOk env) : ∀ {es : List Expr} {xs : List Str} {vs : List SV} {us : List Value} {ρ : List Addr} {s : St} {st : Shared} {K : St → Prop}, namesOf es = some xs → Rel prog w b env ρ s st.heap → Dens st.heap ρ vs us → putAll env.scope.names xs vs s K →
    wpAny (model prog w) A (assignInOrder (es.map fun e v => assign e env v) us) (PostU prog w b env ρ st K) F0 st
  | [], xs, vs, us, ρ, s, st, K, hn, R, ds, h => by
    cases hn
    cases ds with
    | nil => exact assignInOrder_nil ⟨ρ, s, .refl R, h⟩
    | cons _ _ => exact h.elim
  | e :: r, xs, vs, us, ρ, s, st, K, hn, R, ds, h => by
    unfold namesOf at hn
    cases e <;> first | (cases hn; done) | skip
    rename_i x p
    try dsimp only at hn
    cases q : namesOf r with
    | none => rw [q] at hn; cases hn
    | some l =>
      rw [q] at hn; cases hn
      cases ds with
      | nil => exact h.elim
      | cons a c =>
        unfold putAll at h
        cases ql : isLocal env.scope.names x with
        | false => rw [ql] at h; exact h.elim
        | true =>
          rw [ql] at h
          refine assignInOrder_cons (assign_Name (wpAny_mono (store_ok O R a (isLocal_store (K := fun s' => putAll env.scope.names l _ s' K) ql h)) (fun _ st₁ hv => ?_) fun _ _ x => x))
          obtain ⟨ρ₁, s₁, m₁, k₁⟩ := hv
          exact wpAny_mono (putAllE_ok O q m₁.rel (c.mid m₁ R) k₁) (fun _ _ x => x.trans m₁) fun _ _ x => x
theorem putAll_len : ∀ {xs : List Str} {vs : List SV} {s : St} {K : St → Prop}, putAll env.scope.names xs vs s K → xs.length = vs.length
  | [], [], _, _, _ => rfl
  | [], _ :: _, _, _, h => h.elim
  | _ :: _, [], _, _, h => h.elim
  | x :: xs, v :: vs, s, K, h => by
    unfold putAll at h
    cases q : isLocal env.scope.names x with
    | false => rw [q] at h; exact h.elim
    | true => rw [q] at h; exact congrArg Nat.succ (putAll_len h)
theorem target_ok {t : Expr} {v : SV} {u : Value} {K : St → Prop} (O : EnvOk env) (hA : AOk lv A) (R : Rel prog w b env ρ s st.heap) (d : Den st.heap ρ v u) (h : targetW env.scope.names t v s K) :
    wpAny (model prog w) A (assign t env u) (PostU prog w b env ρ st K) F0 st := by
  cases t <;> first | exact False.elim h | (unfold targetW at h; try dsimp only at h)
  · exact assign_Name (store_ok O R d h)
  · rename_i es k p
    try dsimp only at h
    split at h <;> first | exact h.elim | skip
    rename_i xs q
    split at h <;> first | exact h.elim | skip
    rename_i vs
    cases d with
    | tup it nr dd =>
      obtain ⟨h1, h2, h3⟩ := assignEach_names (env := env) q
      obtain ⟨m, F, hh⟩ := R.fr
      have hl := dd.length
      have hp := putAll_len h
      refine unpackN_ F allNews_ok it hA.1 (by rw [h3, List.size_toArray, hl]; exact hp) h2 fun h' F' N' => ?_
      have mid : Mid prog w b env ρ st ρ s { st with heap := h' } := Mid.growL (tk := st.toks) R F.ns hh F'.ns (all_kept F F' N' fun _ hp => hp)
      rw [h1]
      exact wpAny_mono (putAllE_ok O q mid.rel (dd.mid mid R) h) (fun _ _ x => x.trans mid) fun _ _ x => x
theorem exs_ok (H : BunOk prog w b lv B) (O : EnvOk env) (hA : AOk lv A) : ∀ {r : List Stmt} {ρ : List Addr} {s : St} {st : Shared} {K : KF}, Rel prog w b env ρ s st.heap → exsW C B env.scope.names r s K →
    wpAny (model prog w) A (execs r env) (PostF prog w b env ρ st K) F0 st
  | [], ρ, s, st, K, R, h => wpAny_execs_nil ⟨ρ, .next, s, .refl R, .next, h⟩
  | e :: r, ρ, s, st, K, R, h => by
    have plain : (B.ex env.scope.names e s fun f s' => match f with
        | .next => exsW C B env.scope.names r s' K
        | f => K f s') → wpAny (model prog w) A (execs (e :: r) env) (PostF prog w b env ρ st K) F0 st := fun h => by
      refine wpAny_execs_cons (wpAny_mono (H.ex O hA R h) (fun f st₁ hf => ?_) fun _ _ x => x)
      obtain ⟨ρ₁, fl, s₁, m₁, d, k₁⟩ := hf
      cases d with
      | next => exact wpAny_mono (exs_ok H O hA m₁.rel k₁) (fun _ _ x => x.trans m₁) fun _ _ x => x
      | brk => exact ⟨ρ₁, _, s₁, m₁, .brk, k₁⟩
      | cont => exact ⟨ρ₁, _, s₁, m₁, .cont, k₁⟩
      | ret dv => exact ⟨ρ₁, _, s₁, m₁, .ret dv, k₁⟩
    unfold exsW at h
    cases q : invAt C.inv e.pos.line with
    | none => rw [q] at h; exact plain h
    | some i =>
      rw [q] at h
      cases i <;> first | exact plain h | skip
      rename_i α S P
      obtain ⟨h1, h2⟩ := h
      refine wpAny_execs_cons (wpAny_mono (H.ex O hA R h1) (fun f st₁ hf => ?_) fun _ _ x => x)
      obtain ⟨ρ₁, fl, s₁, m₁, d, k₁⟩ := hf
      cases d with
      | next =>
        obtain ⟨a, hp, hl⟩ := k₁
        have m₂ := m₁.weak hl
        exact wpAny_mono (exs_ok H O hA m₂.rel (h2 a hp)) (fun _ _ x => x.trans m₂) fun _ _ x => x
      | brk => exact ⟨ρ₁, _, s₁, m₁, .brk, k₁⟩
      | cont => exact ⟨ρ₁, _, s₁, m₁, .cont, k₁⟩
      | ret dv => exact ⟨ρ₁, _, s₁, m₁, .ret dv, k₁⟩
end
section
variable {prog : Program} {w : World} {b : Heap} {env : Env} {A : Around} {ρ ρ' : List Addr} {s s' : St} {st st' : Shared} {C : Cfg} {B : Bun} {lv : Nat}
theorem noted_of {E : Value → Shared → Prop} : ∀ e s', F0 e s' → notedBy (model prog w) A env E e s' := fun _ _ h => h.elim
theorem while_ok {test : Expr} {body : List Stmt} {pos : Pos} {α : Type} {S : St → α → St} {P : St → α → Prop} {μ : α → Nat} {K : KF} (H : BunOk prog w b lv B) (O : EnvOk env) (hA : AOk lv A) (R : Rel prog w b env ρ s st.heap)
    (h : whileW (fun s K => B.tst env.scope.names test s K) (fun s K => exsW C B env.scope.names body s K) s α S P μ K) : wpAny (model prog w) A (exec (.While test body [] pos) env) (PostF prog w b env ρ st K) F0 st := by
  obtain ⟨⟨a₀, hp₀, hl₀⟩, turn⟩ := h
  refine wpAny_While ?_
  refine codeAny_whileLoop (fun n st' => ∃ a ρ' , μ a = n ∧ P s a ∧ Mid prog w b env ρ st ρ' (S s a) st') (fun n st₁ hI => ?_) (μ a₀) ⟨a₀, ρ, rfl, hp₀, (Mid.refl R).weak hl₀⟩
  obtain ⟨a, ρ₁, rfl, hp, m₁⟩ := hI
  refine wpAny_mono (H.tst O hA m₁.rel (turn a hp)) (fun c st₂ hc => ?_) noted_of
  obtain ⟨ρ₂, s₂, m₂, k₂⟩ := hc
  have m := m₁.trans m₂
  cases c with
  | false => exact wpAny_execs_nil ⟨ρ₂, .next, s₂, m, .next, k₂⟩
  | true =>
    refine wpAny_mono (exs_ok H O hA m₂.rel k₂) (fun f st₃ hf => ?_) noted_of
    obtain ⟨ρ₃, fl, s₃, m₃, d, k₃⟩ := hf
    have m' := m.trans m₃
    cases d with
    | next =>
      obtain ⟨a', hp', hμ, hl⟩ := k₃
      exact ⟨μ a', hμ, a', ρ₃, rfl, hp', m'.weak hl⟩
    | cont =>
      obtain ⟨a', hp', hμ, hl⟩ := k₃
      exact ⟨μ a', hμ, a', ρ₃, rfl, hp', m'.weak hl⟩
    | brk => exact ⟨ρ₃, .next, s₃, m', .next, k₃⟩
    | ret dv => exact ⟨ρ₃, _, s₃, m', .ret dv, k₃⟩
/-- where a loop draws its items from -/
structure Src (prog : Program) (w : World) (b : Heap) (env : Env) (A : Around) (I : Addr) (n : Nat) (it : Nat → SV) (ok : List SO → Prop) (Sx : Nat → List Addr → Heap → Prop) : Prop where
  item : ∀ {i ρ s} {st : Shared} {Q : Option Value → Shared → Prop}, i < n → Rel prog w b env ρ s st.heap → ok s.led → Sx i ρ st.heap →
    (∀ v h' tk, Den st.heap ρ (it i) v → (∀ a o, a ≠ I → st.heap.get? a = some o → h'.get? a = some o) → (∃ o, h'.get? I = some o) → Sx (i + 1) ρ h' → Q (some v) { st with heap := h', toks := tk }) → wpAny (model prog w) A (pyNext (.ref I)) Q F0 st
  done : ∀ {ρ s} {st : Shared} {Q : Option Value → Shared → Prop}, Rel prog w b env ρ s st.heap → ok s.led → Sx n ρ st.heap →
    (∀ h' tk, (∀ a o, a ≠ I → st.heap.get? a = some o → h'.get? a = some o) → Q none { st with heap := h', toks := tk }) → wpAny (model prog w) A (pyNext (.ref I)) Q F0 st
  go : ∀ {i ρ} {st : Shared} {t : Expr} {v : Value} {Q : Unit → Shared → Prop}, Sx i ρ st.heap → Q () st → wpAny (model prog w) A (letOwnedTupleGo t (.ref I) v) Q F0 st
  self : ∀ {i ρ} {st : Shared} {Q : Value → Shared → Prop} {E : Value → Shared → Prop}, Sx i ρ st.heap → Q (.ref I) st → wpAny (model prog w) A (pyIter (.ref I)) Q E st
  frame : ∀ {i ρ h ρ' h'}, Sx i ρ h → Ext (xs env) ρ h ρ' h' → Soft h (xs env) → (∀ o, h.get? I = some o → h'.get? I = some o) → Sx i ρ' h'
/-- the iterator stands apart from all that is named -/
noncomputable def Apart (env : Env) (ρ : List Addr) (I : Addr) : Prop := I ∉ ρ ∧ I ∉ xs env
theorem Mid.iter {h' : Heap} {tk : Nat} {I : Addr} (M : Mid prog w b env ρ st ρ' s' st') (hI : Apart env ρ' I) (hs : st.heap.get? I = none) (hb : b.get? I = none) (k : ∀ a o, a ≠ I → st'.heap.get? a = some o → h'.get? a = some o) (so : Soft st'.heap [I]) :
    Mid prog w b env ρ st ρ' s' { st' with heap := h', toks := tk } := by
  have R := M.rel
  have x : Ext [I] ρ' st'.heap ρ' h' := ⟨fun _ _ e => e, fun a o e n _ => k a o (by simpa using n) e, fun _ m n => absurd m n, fun a o e n => ⟨o, k a o (by simpa using n) e⟩⟩
  have ne : ∀ a ∈ xs env, a ≠ I := fun a ha e => hI.2 (e ▸ ha)
  have neρ : ∀ a ∈ ρ', a ≠ I := fun a ha e => hI.1 (e ▸ ha)
  obtain ⟨m, hn, hh⟩ := R.frame
  refine ⟨M.os, M.gens, ⟨M.ext.pre, fun a o e nX nr => ?_, M.ext.fresh, fun a o e nX => ?_⟩, ⟨R.led.ext x so (fun a ha o => k a o (neρ a ha)) rfl, fun a o e => ?_, ⟨m, ?_, fun y sv e => ?_⟩, R.above, fun c hc => ?_, R.off, R.inj⟩⟩
  · refine k a o (fun q => ?_) (M.ext.keep a o e nX nr)
    subst q; rw [hs] at e; cases e
  · obtain ⟨o1, e1⟩ := M.ext.live a o e nX
    exact ⟨o1, k a o1 (fun q => by subst q; rw [hs] at e; cases e) e1⟩
  · refine k a o (fun q => ?_) (R.stays a o e)
    subst q; rw [hb] at e; cases e
  · obtain ⟨o, es, ep, e, r⟩ := hn
    exact ⟨o, es, ep, k _ o (ne _ List.mem_cons_self) e, r⟩
  · obtain ⟨v, dn, kk⟩ := hh y sv e
    exact ⟨v, dn.ext x so, kk.imp id fun ⟨k1, c, ec, o, eo, dd⟩ => ⟨k1, c, ec, o, k c o (ne c (List.mem_cons_of_mem _ (cells_mem ec))) eo, dd⟩⟩
  · obtain ⟨k1, v, o, eo, dd⟩ := R.abc c hc
    exact ⟨k1, v, o, k c o (ne c (List.mem_cons_of_mem _ hc)) eo, dd⟩
/-- a for over any source, by what holds ahead of each turn -/
theorem for_loop {t : Expr} {body : List Stmt} {I : Addr} {n : Nat} {it : Nat → SV} {ok : List SO → Prop} {Sx : Nat → List Addr → Heap → Prop} {K : KF} (H : BunOk prog w b lv B) (O : EnvOk env) (hA : AOk lv A)
    (W : Src prog w b env A I n it ok Sx) (J : Nat → St → Prop) (M : Mid prog w b env ρ st ρ' s' st') (hI : Apart env ρ' I) (hs : st.heap.get? I = none) (hb : b.get? I = none) (hl : ∃ o, st'.heap.get? I = some o)
    (so : ∀ {i ρ h}, Sx i ρ h → Soft h [I]) (h0 : Sx 0 ρ' st'.heap) (j0 : J 0 s')
    (step : ∀ i s, i < n → J i s → ∃ u, St.leS u s ∧ ok u.led ∧ targetW env.scope.names t (it i) u fun s₁ => exsW C B env.scope.names body s₁ fun f s₂ => match f with
      | .next => J (i + 1) s₂
      | .cont => J (i + 1) s₂
      | .brk => K .next s₂
      | .ret u => K (.ret u) s₂)
    (fin : ∀ s, J n s → ∃ u, St.leS u s ∧ ok u.led ∧ K .next u) :
    codeAny (model prog w) A (.forLoop t (.ref I) body [] env) (fun r s' => match r with | .ok f => PostF prog w b env ρ st K f s' | .error e => cameBackBy (model prog w) A env F0 e s') st' := by
  refine codeAny_forLoop_any (fun k st₁ => ∃ i ρ₁ s₁, k + i = n ∧ Mid prog w b env ρ st ρ₁ s₁ st₁ ∧ Apart env ρ₁ I ∧ (∃ o, st₁.heap.get? I = some o) ∧ Sx i ρ₁ st₁.heap ∧ J i s₁) (fun k st₁ hk => ?_) n ⟨0, ρ', s', rfl, M, hI, hl, h0, j0⟩
  obtain ⟨i, ρ₁, s₁, hki, M₁, hI₁, hl₁, hS, hJ⟩ := hk
  by_cases hlt : i < n
  · obtain ⟨u, hle, hok, hst⟩ := step i s₁ hlt hJ
    have Mu := M₁.weakS hle
    refine wpAny_mono (W.item hlt Mu.rel hok hS fun v h' tk d kp hl' hS' => ?_) (fun _ _ x => x) noted_of
    show wpAny _ _ _ _ _ _
    refine wpAny_mono (W.go hS' ?_) (fun _ _ x => x) noted_of
    have M₂ : Mid prog w b env ρ st ρ₁ u { st₁ with heap := h', toks := tk } := Mu.iter hI₁ hs hb kp (so hS)
    have d₂ : Den h' ρ₁ (it i) v := d.ext (X := [I]) (ρ' := ρ₁) ⟨fun _ _ e => e, fun a o e n _ => kp a o (by simpa using n) e, fun _ m n => absurd m n, fun a o e n => ⟨o, kp a o (by simpa using n) e⟩⟩ (so hS)
    refine wpAny_mono (target_ok (st := { st₁ with heap := h', toks := tk }) O hA M₂.rel d₂ hst) (fun _ st₂ hv => ?_) noted_of
    obtain ⟨ρ₂, s₂, m₂, k₂⟩ := hv
    refine wpAny_mono (exs_ok H O hA m₂.rel k₂) (fun f st₃ hf => ?_) noted_of
    obtain ⟨ρ₃, fl, s₃, m₃, dd, k₃⟩ := hf
    have m23 := m₂.trans m₃
    have M₃ := M₂.trans m23
    obtain ⟨oI, eI⟩ := hl'
    have keepI : ∀ o, h'.get? I = some o → st₃.heap.get? I = some o := fun o e => m23.ext.keep I o e hI₁.2 hI₁.1
    have goOn : J (i + 1) s₃ → ∃ m, m < k ∧ ∃ i ρ₁ s₁, m + i = n ∧ Mid prog w b env ρ st ρ₁ s₁ st₃ ∧ Apart env ρ₁ I ∧ (∃ o, st₃.heap.get? I = some o) ∧ Sx i ρ₁ st₃.heap ∧ J i s₁ := fun hj =>
      ⟨k - 1, by omega, i + 1, ρ₃, s₃, by omega, M₃, ⟨m23.ext.off eI hI₁.1, hI₁.2⟩, ⟨oI, keepI _ eI⟩, W.frame hS' m23.ext M₂.rel.soft keepI, hj⟩
    cases dd with
    | next => exact goOn k₃
    | cont => exact goOn k₃
    | brk => exact ⟨ρ₃, .next, s₃, M₃, .next, k₃⟩
    | ret dv => exact ⟨ρ₃, _, s₃, M₃, .ret dv, k₃⟩
  · have hin : i = n := by omega
    subst hin
    obtain ⟨u, hle, hok, hk⟩ := fin s₁ hJ
    have Mu := M₁.weakS hle
    refine wpAny_mono (W.done Mu.rel hok hS fun h' tk kp => ?_) (fun _ _ x => x) noted_of
    exact wpAny_execs_nil ⟨ρ₁, .next, u, Mu.iter hI₁ hs hb kp (so hS), .next, hk⟩
end
section
variable {prog : Program} {w : World} {b : Heap} {env : Env} {A : Around} {ρ ρ' : List Addr} {s s' : St} {st st' : Shared} {C : Cfg} {B : Bun} {lv : Nat}
theorem go_any {t : Expr} {I : Addr} {v : Value} {o : Obj} {Q : Unit → Shared → Prop} (ho : st.heap.get? I = some o) (hn : (match o.cls, o.data with
    | .type n, .fields vs => ["enumerate", "zip", "dict_itemiterator", "dict_reverseitemiterator", "odict_iterator", "itertools.zip_longest", "itertools.pairwise"].contains n = false
    | _, _ => True)) (h : Q () st) : wpAny (model prog w) A (letOwnedTupleGo t (.ref I) v) Q F0 st := by
  have key : ∀ a : Addr, wpAny (model prog w) A (do
      let o ← load I
      match o.cls, o.data with
      | .type n, .fields vs =>
        if ["enumerate", "zip", "dict_itemiterator", "dict_reverseitemiterator", "odict_iterator", "itertools.zip_longest", "itertools.pairwise"].contains n && vs[0]? == some (rawInt a) then
          rule "for.unpacks-the-owned-tuple"
          updateField I 0 .none
      | _, _ => pure ()) Q F0 st := fun a => by
    refine wpAny_bind (wpAny_load ho ?_)
    split
    · rename_i n vs e1 e2
      rw [e1, e2] at hn
      dsimp only at hn
      rw [hn]
      exact wpAny_pure h
    · exact wpAny_pure h
  unfold letOwnedTupleGo
  cases t <;> first | exact wpAny_pure h | (cases v <;> first | exact wpAny_pure h | exact key _)
theorem soft_iter {h : Heap} {I : Addr} {o : Obj} {vs : Array Value} (e : h.get? I = some o) (d : o.data = .fields vs) (c : o.cls ≠ .type "range") : Soft h [I] := fun a hm => by
  rw [List.mem_singleton.mp hm]
  refine ⟨o, e, fun xs n _ q => ?_, fun vs q => absurd q c⟩
  rw [d] at q; cases q
theorem src_list {I ax : Addr} {j : Nat} {sl : SL} (hA : AOk lv A) (ne : ax ≠ I) :
    Src prog w b env A I sl.len (fun i => (atN sl.den i).getD .none) (same j sl) (fun i ρ h => h.IsListIter I ax i ∧ atN ρ j = some ax) where
  item := fun {i ρ s st Q} hi R ok hS hQ => by
    obtain ⟨hit, ej⟩ := hS
    obtain ⟨a, vs, n, e, ea, hg, dd⟩ := list_at R (Den.own ej) (show itemOf s.led j = some sl by unfold itemOf; rw [show atN s.led j = _ from ok])
    cases e
    have hl := dd.length
    have hi' : i < sl.den.length := by rw [SL.len_den]; exact hi
    have e1 : atN sl.den i = some sl.den[i] := by rw [atN_eq, List.getElem?_eq_getElem hi']
    obtain ⟨v, ev, dv⟩ := dd.at e1
    refine wpAny_pyNext_list_item hit (isList_of hg) (x := v) (by simpa using ev) fun h' hit' hs' => ?_
    have hit'' := hit'
    obtain ⟨o, eo, _⟩ := hit''
    exact hQ v h' st.toks (by rw [e1]; exact dv) (fun a o n e => (hs'.2 a n).trans e) ⟨o, eo⟩ ⟨hit', ej⟩
  done := fun {ρ s st Q} R ok hS hQ => by
    obtain ⟨hit, ej⟩ := hS
    obtain ⟨a, vs, n, e, ea, hg, dd⟩ := list_at R (Den.own ej) (show itemOf s.led j = some sl by unfold itemOf; rw [show atN s.led j = _ from ok])
    cases e
    have hl := dd.length
    rw [SL.len_den] at hl
    refine wpAny_pyNext_list_end hA.1 hit (isList_of hg) (by simp [hl]) fun h' he' => hQ h' st.toks fun a o n e => he' a o n e
  go := fun hS h => by
    obtain ⟨⟨o, eo, c, d⟩, _⟩ := hS
    exact go_any eo (by rw [c, d]; dsimp only; decide) h
  self := fun hS h => wpAny_pyIter_listiter hS.1 h
  frame := fun hS x _ k => ⟨hS.1.at k, x.pre _ _ hS.2⟩
theorem src_tup {I ax : Addr} {l : List SV} {items : Array Value} (hA : AOk lv A) (ne : ax ≠ I) :
    Src prog w b env A I l.length (fun i => (atN l i).getD .none) (fun _ => True) (fun i ρ h => h.IsTupleIter I ax i ∧ h.IsTuple ax items ∧ ax ∉ ρ ∧ Dens h ρ l items.toList) where
  item := fun {i ρ s st Q} hi R ok hS hQ => by
    obtain ⟨hit, ht, nr, dd⟩ := hS
    have e1 : atN l i = some l[i] := by rw [atN_eq, List.getElem?_eq_getElem hi]
    obtain ⟨v, ev, dv⟩ := dd.at e1
    refine wpAny_pyNext_tuple_item hit ht (x := v) (by simpa using ev) fun h' hit' hs' => ?_
    have hit'' := hit'
    obtain ⟨o, eo, _⟩ := hit''
    have hit0 := hit
    obtain ⟨oi, ei, ci, di⟩ := hit0
    have k : ∀ a o, a ≠ I → st.heap.get? a = some o → h'.get? a = some o := fun a o n e => (hs'.2 a n).trans e
    have so : Soft st.heap [I] := soft_iter ei di (by rw [ci]; decide)
    have x : Ext [I] ρ st.heap ρ h' := ⟨fun _ _ e => e, fun a o e n _ => k a o (by simpa using n) e, fun _ m n => absurd m n, fun a o e n => ⟨o, k a o (by simpa using n) e⟩⟩
    exact hQ v h' st.toks (by rw [e1]; exact dv) k ⟨o, eo⟩ ⟨hit', ht.extBut hs'.extBut ne, nr, dd.ext x so⟩
  done := fun {ρ s st Q} R ok hS hQ => by
    obtain ⟨hit, ht, nr, dd⟩ := hS
    have hl := dd.length
    refine wpAny_pyNext_tuple_end hA.1 hit ht (by simp at hl ⊢; omega) fun h' he' => hQ h' st.toks fun a o n e => he' a o n e
  go := fun hS h => by
    obtain ⟨⟨o, eo, c, d⟩, _⟩ := hS
    exact go_any eo (by rw [c, d]; dsimp only; decide) h
  self := fun hS h => wpAny_pyIter_tupleiter hS.1 h
  frame := fun hS x q k => by
    obtain ⟨hit, ht, nr, dd⟩ := hS
    obtain ⟨o, e, c, n, d⟩ := ht
    have ke := x.keep _ o e (fun m => by obtain ⟨o', e', h1, _⟩ := q _ m; rw [e] at e'; cases e'; exact h1 _ _ c d) nr
    exact ⟨(by obtain ⟨oi, ei, r⟩ := hit; exact ⟨oi, k _ ei, r⟩), ⟨o, ke, c, n, d⟩, x.off e nr, dd.ext x q⟩
theorem src_rng {I : Addr} {n : Nat} (hA : AOk lv A) :
    Src prog w b env A I n (fun i => SV.int (Int.ofNat i)) (fun _ => True) (fun i _ h => IsRangeIter h I (i : Int) ((n : Int) - (i : Int)) 1) where
  item := fun {i ρ s st Q} hi R ok hS hQ => by
    refine wpAny_pyNext_range_item hS (by omega) fun h' hit' hs' => ?_
    refine hQ _ h' _ (.int _ _) (fun a o n e => (hs'.2 a n).trans e) ⟨_, hit'⟩ ?_
    have e1 : ((i + 1 : Nat) : Int) = (i : Int) + 1 := by push_cast; rfl
    rw [e1, show (n : Int) - ((i : Int) + 1) = (n : Int) - (i : Int) - 1 by omega]
    exact hit'
  done := fun {ρ s st Q} R ok hS hQ => wpAny_pyNext_range_end hA.1 hS (by omega) fun h' he' => hQ h' st.toks fun a o n e => he' a o n e
  go := fun hS h => go_any hS (by dsimp only; decide) h
  self := fun hS h => wpAny_pyIter_rangeiter hS h
  frame := fun hS _ _ k => k _ hS
end
section
variable {prog : Program} {w : World} {b : Heap} {env : Env} {A : Around} {ρ ρ' : List Addr} {s s' : St} {st st' : Shared} {C : Cfg} {B : Bun} {lv : Nat}
theorem drop_at {α : Type} : ∀ {l : List α} {i : Nat} {d : α}, i < l.length → l.drop i = (atN l i).getD d :: l.drop (i + 1)
  | _ :: _, 0, _, _ => rfl
  | _ :: r, i + 1, d, h => by
    show r.drop i = (atN r i).getD d :: r.drop (i + 1)
    exact drop_at (Nat.lt_of_succ_lt_succ h)
/-- a loop's end: the whole statement, given its iterator -/
theorem for_end {t : Expr} {body : List Stmt} {I : Addr} {n : Nat} {it : Nat → SV} {ok : List SO → Prop} {Sx : Nat → List Addr → Heap → Prop} {K : KF} {h' : Heap} {tk : Nat} (H : BunOk prog w b lv B) (O : EnvOk env) (hA : AOk lv A)
    (W : Src prog w b env A I n it ok Sx) (J : Nat → St → Prop) (M : Mid prog w b env ρ st ρ' s' st') (hI : I = st'.heap.objs.size) (o : Obj) (ho : o.isFreed = false) (hh : h' = st'.heap.push o)
    (so : ∀ {i ρ h}, Sx i ρ h → Soft h [I]) (h0 : Sx 0 ρ' h') (j0 : J 0 s')
    (step : ∀ i s, i < n → J i s → ∃ u, St.leS u s ∧ ok u.led ∧ targetW env.scope.names t (it i) u fun s₁ => exsW C B env.scope.names body s₁ fun f s₂ => match f with
      | .next => J (i + 1) s₂
      | .cont => J (i + 1) s₂
      | .brk => K .next s₂
      | .ret u => K (.ret u) s₂)
    (fin : ∀ s, J n s → ∃ u, St.leS u s ∧ ok u.led ∧ K .next u) :
    codeAny (model prog w) A (.forLoop t (.ref I) body [] env) (fun r s' => match r with | .ok f => PostF prog w b env ρ st K f s' | .error e => cameBackBy (model prog w) A env F0 e s') { st' with heap := h', toks := tk } := by
  subst hI hh
  have fr : st'.heap.get? st'.heap.objs.size = none := get_size _
  have M₁ : Mid prog w b env ρ st ρ' s' { st' with heap := st'.heap.push o, toks := tk } := M.trans (Mid.push M.rel o)
  have nb : b.get? st'.heap.objs.size = none := by
    cases e : b.get? st'.heap.objs.size with
    | none => rfl
    | some x => rw [M.rel.stays _ x e] at fr; cases fr
  have ns : st.heap.get? st'.heap.objs.size = none := by
    cases e : st.heap.get? st'.heap.objs.size with
    | none => rfl
    | some x =>
      by_cases q : st'.heap.objs.size ∈ xs env
      · obtain ⟨o', e', _⟩ := M.rel.soft _ q; rw [fr] at e'; cases e'
      · obtain ⟨o', e'⟩ := M.ext.live _ x e q; rw [fr] at e'; cases e'
  have ap : Apart env ρ' st'.heap.objs.size := ⟨fun m => (by obtain ⟨o', e'⟩ := M.rel.led.live _ m; rw [fr] at e'; cases e'), fun m => (by obtain ⟨o', e', _⟩ := M.rel.soft _ m; rw [fr] at e'; cases e')⟩
  exact for_loop H O hA W J M₁ ap ns nb ⟨o, Heap.get?_push_size _ ho⟩ so h0 j0 step fin
theorem lit_step {exs : St → KF → Prop} {t : Expr} {ok : List SO → Prop} {l : List SV} {K : KF} {i : Nat} {s : St} (hi : i < l.length) (h : loopLit B exs env.scope.names t ok (l.drop i) s K) :
    targetW env.scope.names t ((atN l i).getD .none) s fun s₁ => exs s₁ fun f s₂ => match f with
      | .next => ok s₂.led ∧ loopLit B exs env.scope.names t ok (l.drop (i + 1)) s₂ K
      | .cont => ok s₂.led ∧ loopLit B exs env.scope.names t ok (l.drop (i + 1)) s₂ K
      | .brk => K .next s₂
      | .ret u => K (.ret u) s₂ := by
  rw [drop_at (d := SV.none) hi] at h
  exact h
theorem isSet_folded {e : Expr} (h : isSetE e = false) : ∀ x, foldedSetIterable e env x = pure x := by
  intro x
  cases e <;> first | rfl | cases h
theorem small_of {n : Int} (h0 : 0 ≤ n) (h1 : n ≤ 1000) : Builtin.Range.small 0 n 1 = true ∧ Builtin.Range.rangeSize 0 n 1 = n := by
  have e : Builtin.Range.rangeSize 0 n 1 = n := by
    unfold Builtin.Range.rangeSize
    rw [if_pos (by decide)]
    by_cases q : 0 < n
    · rw [if_pos q, Int.ediv_one]; omega
    · rw [if_neg q]; omega
  refine ⟨?_, e⟩
  unfold Builtin.Range.small
  rw [e]
  unfold Builtin.Range.rangeFitsLong
  simp
  omega
theorem take_succ {α : Type} {xs : List α} {i : Nat} (h : i < xs.length) : xs = xs.take i ++ xs[i] :: xs.drop (i + 1) ∧ xs.take (i + 1) = xs.take i ++ [xs[i]] := by
  refine ⟨?_, ?_⟩
  · rw [← List.drop_eq_getElem_cons h, List.take_append_drop]
  · rw [List.take_add_one, List.getElem?_eq_getElem h]; rfl
/-- a loop by an invariant, as the walk asks it -/
theorem qAll_of {β : Type} (P : β → Prop) (h : qAll P) : ∀ b, P b := h
theorem qOpt_of {β : Type} (P : Option β → Prop) (h : qOpt P) : ∀ b, P b := fun b => match b with | none => h.1 | some x => h.2 x
theorem inv_src {β : Type} {qt : (β → Prop) → Prop} (hq : ∀ P, qt P → ∀ b, P b) {emb : β → SV} {t : Expr} {body : List Stmt} {xs : List β} {α : Type} {S : St → α → St} {P : St → List β → α → Prop} {K : KF} {n : Nat} {it : Nat → SV} {ok : List SO → Prop} {Sx : Nat → List Addr → Heap → Prop} {o : Obj} (H : BunOk prog w b lv B) (O : EnvOk env) (hA : AOk lv A)
    (W : Src prog w b env A st'.heap.objs.size n it ok Sx) (M : Mid prog w b env ρ st ρ' s' st') (ho : o.isFreed = false) (so : ∀ {i ρ h}, Sx i ρ h → Soft h [st'.heap.objs.size]) (s0 : Sx 0 ρ' (st'.heap.push o)) (hlen : n = xs.length) (hit : ∀ i (h : i < xs.length), it i = emb xs[i]) (tk : Nat)
    (h : loopInv qt emb ok (fun s K => exsW C B env.scope.names body s K) env.scope.names t xs s' α S P K) :
    codeAny (model prog w) A (.forLoop t (.ref st'.heap.objs.size) body [] env) (fun r s' => match r with | .ok f => PostF prog w b env ρ st K f s' | .error e => cameBackBy (model prog w) A env F0 e s') { st' with heap := st'.heap.push o, toks := tk } := by
  obtain ⟨⟨a₀, hp₀, hl₀⟩, hsame, turn, fin⟩ := h
  refine for_end (C := C) H O hA W (fun i s => ∃ a, P s' (xs.take i) a ∧ St.le (S s' a) s) M rfl o ho rfl so s0 ⟨a₀, hp₀, hl₀⟩ (fun i s hi hJ => ?_) fun s hJ => ?_
  · obtain ⟨a, hp, hle⟩ := hJ
    rw [hlen] at hi
    obtain ⟨e1, e2⟩ := take_succ hi
    refine ⟨S s' a, hle.toS, hsame a, ?_⟩
    rw [hit i hi, e2]
    exact hq _ (turn (xs.take i)) xs[i] (xs.drop (i + 1)) a e1 hp
  · obtain ⟨a, hp, hle⟩ := hJ
    rw [hlen, List.take_length] at hp
    exact ⟨S s' a, hle.toS, hsame a, fin a hp⟩
theorem map_getD {β : Type} {emb : β → SV} {xs : List β} {i : Nat} (hi : i < xs.length) : (atN (List.map emb xs) i).getD SV.none = emb xs[i] := by
  rw [atN_eq, List.getElem?_map, List.getElem?_eq_getElem hi]; rfl
theorem iter_ne {ax : Addr} {h : Heap} {o : Obj} (e : h.get? ax = some o) : ax ≠ h.objs.size := Nat.ne_of_lt (Heap.lt_size e)
theorem forOver_ok {t : Expr} {body : List Stmt} {ln : Nat} {v : SV} {u : Value} {K : KF} (H : BunOk prog w b lv B) (O : EnvOk env) (hA : AOk lv A) (M : Mid prog w b env ρ st ρ' s' st') (d : Den st'.heap ρ' v u)
    (h : forOver C ln B (fun s K => exsW C B env.scope.names body s K) env.scope.names t v s' K) :
    wpAny (model prog w) A (pyIter u) (fun it s₂ => codeAny (model prog w) A (.forLoop t it body [] env) (fun r s' => match r with | .ok f => PostF prog w b env ρ st K f s' | .error e => cameBackBy (model prog w) A env F0 e s') s₂) F0 st' := by
  unfold forOver at h
  have lit : ∀ {I : Addr} {vs : List SV} {ok : List SO → Prop} {Sx : Nat → List Addr → Heap → Prop} {o : Obj}, Src prog w b env A I vs.length (fun i => (atN vs i).getD .none) ok Sx → I = st'.heap.objs.size → o.isFreed = false → (∀ {i ρ h}, Sx i ρ h → Soft h [I]) →
      Sx 0 ρ' (st'.heap.push o) → ok s'.led → loopLit B (fun s K => exsW C B env.scope.names body s K) env.scope.names t ok vs s' K →
      codeAny (model prog w) A (.forLoop t (.ref I) body [] env) (fun r s' => match r with | .ok f => PostF prog w b env ρ st K f s' | .error e => cameBackBy (model prog w) A env F0 e s') { st' with heap := st'.heap.push o } := fun {I vs ok Sx o} W hI ho so h0 hk h => by
    refine for_end (C := C) (tk := st'.toks) H O hA W (fun i s => ok s.led ∧ loopLit B (fun s K => exsW C B env.scope.names body s K) env.scope.names t ok (vs.drop i) s K) M hI o ho rfl so h0 ⟨hk, h⟩ (fun i s hi hJ => ?_) fun s hJ => ?_
    · exact ⟨s, .refl s, hJ.1, lit_step hi hJ.2⟩
    · obtain ⟨h1, h2⟩ := hJ
      rw [List.drop_length] at h2
      exact ⟨s, .refl s, h1, h2⟩
  cases v <;> first | exact h.elim | skip
  · -- tuple
    rename_i vs
    cases d with
    | tup it nr dd =>
      rename_i us a
      obtain ⟨o, eo, c, n, dt⟩ := id it
      refine wpAny_pyIter_tuple it ?_
      refine lit (src_tup (l := vs) (items := List.toArray us) hA (iter_ne eo)) rfl rfl (fun hS => ?_) ⟨⟨_, Heap.get?_push_size _ rfl, rfl, rfl⟩, ⟨o, Heap.get?_push_of_some _ eo, c, n, dt⟩, nr, dd.mid (Mid.push (tk := st'.toks) M.rel _) M.rel⟩ trivial h
      obtain ⟨⟨o, eo, c, d⟩, _⟩ := hS
      exact soft_iter eo d (by rw [c]; decide)
  · -- a list of the ledger
    rename_i j
    dsimp only at h
    split at h <;> first | exact h.elim | skip
    rename_i l q
    obtain ⟨ax, vs, n, rfl, ea, hg, dd⟩ := list_at M.rel d q
    refine wpAny_pyIter_list (isList_of hg) ?_
    have hs : same j l s'.led := by
      unfold itemOf at q
      cases e : atN s'.led j with
      | none => rw [e] at q; cases q
      | some o =>
        rw [e] at q
        cases o <;> first | (cases q; done) | skip
        cases q; exact e
    cases l <;> first | exact h.elim | skip
    · rename_i l
      refine lit (src_list (j := j) (sl := .lit l) hA (iter_ne hg)) rfl rfl (fun hS => ?_) ⟨⟨_, Heap.get?_push_size _ rfl, rfl, rfl⟩, ea⟩ hs h
      obtain ⟨⟨o, eo, c, d⟩, _⟩ := hS
      exact soft_iter eo d (by rw [c]; decide)
    all_goals
      dsimp only at h
      split at h <;> first | exact h.elim | skip
      have sl := fun (l : SL) => src_list (prog := prog) (w := w) (b := b) (env := env) (A := A) (I := st'.heap.objs.size) (j := j) (sl := l) hA (iter_ne hg)
      have so : ∀ {i : Nat} {ρ : List Addr} {h : Heap}, h.IsListIter st'.heap.objs.size ax i ∧ atN ρ j = some ax → Soft h [st'.heap.objs.size] := fun hS => by
        obtain ⟨⟨o, eo, c, d⟩, _⟩ := hS; exact soft_iter eo d (by rw [c]; decide)
      first
        | exact inv_src qAll_of H O hA (sl _) M rfl so ⟨⟨_, Heap.get?_push_size _ rfl, rfl, rfl⟩, ea⟩ (by rfl) (by intro i hi; exact map_getD hi) st'.toks h
        | exact inv_src qOpt_of H O hA (sl _) M rfl so ⟨⟨_, Heap.get?_push_size _ rfl, rfl, rfl⟩, ea⟩ (by rfl) (by intro i hi; exact map_getD hi) st'.toks h
  · -- a range
    rename_i n
    dsimp only at h
    split at h <;> first | exact h.elim | skip
    cases d with
    | rng h0 h1 hr nr =>
      obtain ⟨hs, hz⟩ := small_of h0 h1
      refine wpAny_pyIter_range hr hs ?_
      rw [hz]
      obtain ⟨k, rfl⟩ := Int.eq_ofNat_of_zero_le h0
      refine inv_src qAll_of H O hA (src_rng (n := k) hA) M rfl (fun hS => soft_iter hS rfl (by intro e; simp at e)) ?_ (show k = (rangeL (k : Int)).length by simp [rangeL]) (fun i hi => by simp [rangeL]) st'.toks h
      have : IsRangeIter (st'.heap.push { cls := .type "range_iterator", data := .fields #[rawInt 0, rawInt (k : Int), rawInt 1] }) st'.heap.objs.size 0 (k : Int) 1 := Heap.get?_push_size _ rfl
      simpa using this
end
section
variable {prog : Program} {w : World} {b : Heap} {env : Env} {A : Around} {ρ ρ' : List Addr} {s s' : St} {st st' : Shared} {C : Cfg} {B : Bun} {lv : Nat}
theorem ki_set_eq {v : Value} : ∀ {vs : List Value} {k : Nat}, k < vs.length → ki_setL vs k v = some (vs.set k v)
  | _ :: _, 0, _ => rfl
  | x :: r, k + 1, h => by
    unfold ki_setL
    rw [ki_set_eq (Nat.lt_of_succ_lt_succ h)]
    rfl
theorem aug_plain {i : Expr} (h : isSlice i = false) : ∀ ov iv new, augStore i ov iv new = (do holding [new, ov, iv] (setItem ov iv new); release [new, ov, iv] []; pure .next) := by
  intro ov iv new
  cases i <;> first | rfl | cases h
theorem Dens.reverse {h : Heap} : ∀ {l : List SV} {vs : List Value}, Dens h ρ l vs → Dens h ρ l.reverse vs.reverse
  | _, _, .nil => .nil
  | _, _, .cons a c => by rw [List.reverse_cons, List.reverse_cons]; exact c.reverse.append (.cons a .nil)
theorem loadLocal_ok {x : Str} {a : SV} {Q : Value → Shared → Prop} (O : EnvOk env) (R : Rel prog w b env ρ s st.heap) (e : get s.loc x = some a) (h : ∀ v, Den st.heap ρ a v → Q v st) : wpAny (model prog w) A (loadName env x) Q F0 st := by
  obtain ⟨m, hn, hh⟩ := R.frame
  obtain ⟨v, d, k⟩ := hh x a e
  rcases k with ⟨k, hm⟩ | ⟨k | k, c, hc, hi⟩
  · exact wpAny_loadName_local O.kind k hn hm (h v d)
  · exact wpAny_loadName_cell O.kind k hc hi (h v d)
  · have n := okNames_of O.names (by rw [← kindOf_get]; exact k)
    exact wpAny_loadName_free O.kind k hc hi (h v d) n.2
theorem swapB_ok {ts vs : List Expr} {k k2 : Nat} {p p2 : Pos} {names : List Str} (O : EnvOk env) (h : swapB env.scope.names ts vs = some names) : swappedStores [.Tuple ts k p] (.Tuple vs k2 p2) env = pure (some names) := by
  have hb : env.blockKind = .function := by simp [Env.blockKind, O.kind, ScopeKind.isAnnotationScope]
  unfold swapB at h
  unfold swappedStores
  simp only [← kindOf_get] at h
  split at h
  · cases h
  · rename_i h1
    split at h
    · cases h
    · rename_i h2
      dsimp only at h ⊢
      split at h
      · cases h
      · rename_i h3
        split at h
        · cases h
        · rename_i h4
          split at h
          · cases h
          · rename_i h5
            cases h
            exact (if_neg (by rw [hb]; simpa using h1)).trans ((if_neg h2).trans ((if_neg h3).trans ((if_neg h4).trans (if_neg h5))))
end
section
variable {prog : Program} {w : World} {b : Heap} {env : Env} {A : Around} {ρ ρ' : List Addr} {s s' : St} {st st' : Shared} {C : Cfg} {B : Bun} {lv : Nat}
theorem swaps_no {e : Expr} {t : Option Expr} {n : Nat} (h : isComp e = false) : swapsWith e t n env = pure false := by
  cases e <;> first | rfl | cases h
/-- an assignment of a comprehension to a name of its own line -/
noncomputable def CompAOk (prog : Program) (w : World) (b : Heap) (lv : Nat) (C : Cfg) (B : Bun) : Prop := ∀ {env : Env} {A : Around} {ρ : List Addr} {s : St} {st : Shared} {x : Str} {px pos : Pos} {v : Expr} {K : KF},
  EnvOk env → AOk lv A → Rel prog w b env ρ s st.heap → isComp v = true → assignW B env.scope.names (.Name x px) v s K → wpAny (model prog w) A (exec (.Assign [.Name x px] v pos) env) (PostF prog w b env ρ st K) F0 st
theorem flow_next {K : KF} {r : Unit} {st₁ : Shared} (x : PostU prog w b env ρ st (fun s'' => K .next s'') r st₁) : PostF prog w b env ρ st K .next st₁ := by
  obtain ⟨ρ₁, s₁, m, k⟩ := x
  exact ⟨ρ₁, .next, s₁, m, .next, k⟩
theorem attrSetU_ok {ov u : SV} {o z : Value} {name : Str} {K : KF} (S : Sta prog w b) (R : Rel prog w b env ρ s st.heap) (d : Den st.heap ρ ov o) (du : Den st.heap ρ u z)
    (h : match attrPut s.led ov name u with
      | some led => K .next { s with led := led }
      | none => False) : wpAny (model prog w) A (setAttr o name z) (fun _ st' => PostF prog w b env ρ st K .next st') F0 st := by
  cases q : attrPut s.led ov name u with
  | none => rw [q] at h; exact h.elim
  | some led =>
    rw [q] at h
    exact wpAny_mono (attrSet_ok (K := fun s'' => K .next s'') S R d du q h) (fun r _ x => flow_next (r := r) x) fun _ _ x => x
theorem setN_map {α β : Type} (f : α → β) (z : α) : ∀ (xs : List α) (n : Nat), (setN xs n z).map f = setN (xs.map f) n (f z)
  | [], _ => rfl
  | _ :: _, 0 => rfl
  | x :: r, n + 1 => congrArg (f x :: ·) (setN_map f z r n)
theorem setLit_of {l : SL} {i : Int} {v : SV} {K : SL → Prop} (h : setLit l i v K) : ∃ l', l'.den = setN l.den i.toNat v ∧ 0 ≤ i ∧ i < l.len ∧ i < 1000 ∧ K l' := by
  cases l <;> first | exact h.elim | exact ⟨_, rfl, h.1.1, h.1.2.1, h.1.2.2, h.2⟩ | skip
  rename_i xs
  cases v <;> first | exact h.elim | skip
  rename_i z
  exact ⟨.ints (setN xs i.toNat z), setN_map _ _ _ _, h.1.1, h.1.2.1, h.1.2.2, h.2⟩
theorem setItem_ok {j : Nat} {o : Value} {l : SL} {k : Int} {t : Tok} {u : SV} {z : Value} {K : KF} (R : Rel prog w b env ρ s st.heap) (d : Den st.heap ρ (.own j) o) (du : Den st.heap ρ u z) (q : itemOf s.led j = some l)
    (h : setLit l k u fun l' => K .next { s with led := setN s.led j (.list l') }) : wpAny (model prog w) A (setItem o (.int k t) z) (fun _ st' => PostF prog w b env ρ st K .next st') F0 st := by
  obtain ⟨l', el, h0, h1, h2, h⟩ := setLit_of h
  obtain ⟨a, vs, n, rfl, ea, hg, dd⟩ := list_at R d q
  have nd := led_ne R (atN_mem ea)
  have hl := dd.length
  obtain ⟨m, F, hh⟩ := R.fr
  have e : ki_setL (List.toArray vs).toList k.toNat z = some (vs.set k.toNat z) := ki_set_eq (by rw [SL.len_den] at hl; show k.toNat < vs.length; omega)
  refine PySem.W.ki_set F (newsBut_ok hg nd (e0_get _)) h0 (by omega) e (.head newsBut_ne) fun h' F' N' => ?_
  have hD := N' (a, _) List.mem_cons_self
  exact ⟨ρ, .next, _, Mid.setL (tk := st.toks) R F.ns hh F'.ns ea (but_kept F F' N' fun p hp => List.mem_cons_of_mem _ hp) (fun x' => .list (l := l') hD.1 (by rw [el]; exact (Dens.set du k.toNat dd).ext x' fun a hm => R.soft a (xs_one a hm))) ⟨_, hD.1⟩, .next, h⟩
theorem ex_step {e : Stmt} {K : KF} (S : Sta prog w b) (H : BunOk prog w b lv B) (Hc : CompAOk prog w b lv C B) (O : EnvOk env) (hA : AOk lv A) (R : Rel prog w b env ρ s st.heap)
    (h : exW C B env.scope.names e s K) : wpAny (model prog w) A (exec e env) (PostF prog w b env ρ st K) F0 st := by
  cases e <;> first | exact (show False from h).elim | (unfold exW at h; dsimp only at h)
  · -- Return
    rename_i v pos
    cases v with
    | none => exact wpAny_Return_none ⟨ρ, _, s, .refl R, .ret .none, h⟩
    | some e =>
      refine wpAny_Return_some (H.evk O hA R h fun v st₁ ρ₁ sv s₁ m₁ d₁ k₁ => ?_)
      exact ⟨ρ₁, _, s₁, m₁, .ret d₁, k₁⟩
  · -- Assign
    rename_i ts v pos
    cases ts with
    | nil => exact h.elim
    | cons t r =>
      cases r with
      | cons _ _ => exact h.elim
      | nil =>
        try dsimp only at h
        cases t <;> first | exact (show False from h).elim | (unfold assignW at h; dsimp only at h)
        · -- Attribute
          rename_i o name p
          try dsimp only at h
          split at h <;> first | exact h.elim | skip
          rename_i hc
          refine plainObj_wpAny_Assign_Attribute (H.evk O hA R h fun v st₁ ρ₁ sv s₁ m₁ d₁ k₁ => ?_) (swaps_no hc)
          refine H.evk O hA m₁.rel k₁ fun ov st₂ ρ₂ so s₂ m₂ d₂ k₂ => ?_
          exact wpAny_mono (attrSetU_ok (K := K) S m₂.rel d₂ (d₁.mid m₂ m₁.rel) k₂) (fun _ _ x => x.trans (m₁.trans m₂)) fun _ _ x => x
        · -- Subscript
          rename_i o i p
          try dsimp only at h
          split at h <;> first | exact h.elim | skip
          rename_i hc
          refine wpAny_Assign_Subscript (H.evk O hA R h fun v st₁ ρ₁ sv s₁ m₁ d₁ k₁ => ?_) (swaps_no hc)
          refine H.evk O hA m₁.rel k₁ fun ov st₂ ρ₂ so s₂ m₂ d₂ k₂ => ?_
          refine H.evk O hA m₂.rel k₂ fun iv st₃ ρ₃ si s₃ m₃ d₃ k₃ => ?_
          cases si <;> first | exact k₃.elim | skip
          cases so <;> first | exact k₃.elim | skip
          dsimp only at k₃
          split at k₃ <;> first | exact k₃.elim | skip
          rename_i l q
          cases d₃
          have m := (m₁.trans m₂).trans m₃
          exact wpAny_mono (setItem_ok (K := K) m₃.rel (d₂.mid m₃ m₂.rel) (d₁.mid (m₂.trans m₃) m₁.rel) q k₃) (fun _ _ x => x.trans m) fun _ _ x => x
        · -- Name
          rename_i x p
          cases hc : isComp v with
          | true => exact Hc O hA R hc (show assignW B env.scope.names (.Name x p) v s K from h)
          | false =>
            refine wpAny_Assign_Name (H.evk O hA R h fun v st₁ ρ₁ sv s₁ m₁ d₁ k₁ => ?_) (swaps_no hc)
            exact wpAny_mono (store_ok (K := fun s'' => K .next s'') O m₁.rel d₁ k₁) (fun r _ x => (flow_next (r := r) x).trans m₁) fun _ _ x => x
        · -- Tuple
          rename_i ts k p
          cases v <;> first | exact h.elim | skip
          rename_i vs k2 p2
          try dsimp only at h
          split at h <;> first | exact h.elim | skip
          rename_i names q
          split at h <;> first | exact h.elim | skip
          rename_i hn
          refine Assign_Tuple_swapped (names := names) (H.evk O hA R h fun v st₁ ρ₁ sv s₁ m₁ d₁ k₁ => ?_) rfl (swapB_ok O q)
          cases sv <;> first | exact k₁.elim | skip
          rename_i us
          cases d₁ with
          | tup it nr dd =>
            obtain ⟨m, F, hh⟩ := m₁.rel.fr
            have hl := dd.length
            have hp := putAll_len k₁
            rw [List.length_reverse, List.length_reverse] at hp
            refine unpackItemsN_ F allNews_ok it hA.1 (by rw [List.size_toArray, hl]; exact hp) fun h' F' N' => ?_
            have mid : Mid prog w b env ρ₁ st₁ ρ₁ s₁ { st₁ with heap := h' } := Mid.growL (tk := st₁.toks) m₁.rel F.ns hh F'.ns (all_kept F F' N' fun _ hp => hp)
            exact wpAny_mono (putAll_ok (K := fun s'' => K .next s'') O mid.rel ((dd.mid mid m₁.rel).reverse) k₁) (fun r _ x => (flow_next (r := r) x).trans (m₁.trans mid)) fun _ _ x => x
  · -- AugAssign
    rename_i t op v pos
    cases t <;> first | exact h.elim | skip
    · rename_i o i p
      try dsimp only at h
      split at h <;> first | exact h.elim | skip
      rename_i hsl
      refine wpAny_AugAssign_Subscript_any (H.evk O hA R h fun ov st₁ ρ₁ so s₁ m₁ d₁ k₁ => ?_) (aug_plain hsl)
      refine H.evk O hA m₁.rel k₁ fun iv st₂ ρ₂ si s₂ m₂ d₂ k₂ => ?_
      cases so <;> first | exact k₂.elim | skip
      rename_i j
      cases si <;> first | exact k₂.elim | skip
      rename_i k
      dsimp only at k₂
      split at k₂ <;> first | exact k₂.elim | skip
      rename_i l q
      cases d₂ with
      | int _ t =>
        have dj := d₁.mid m₂ m₁.rel
        obtain ⟨a, vs, n, rfl, ea, hg, dd⟩ := list_at m₂.rel dj q
        obtain ⟨sd, old, ev, d₃, k₃, h0, h1⟩ := item_ok (t := t) hg dd k₂
        refine wpAny_getItem_list (isList_of hg) h0 (by omega) (by simpa using ev) ?_
        refine H.evk O hA m₂.rel k₃ fun nv st₄ ρ₄ sn s₄ m₄ d₄ k₄ => ?_
        cases sd <;> first | exact k₄.elim | skip
        cases sn <;> first | exact k₄.elim | skip
        cases op <;> first | exact k₄.elim | skip
        dsimp only at k₄
        split at k₄ <;> first | exact k₄.elim | skip
        rename_i l' q'
        cases d₃
        cases d₄
        have m := (m₁.trans m₂).trans m₄
        refine iadd_int ?_
        exact wpAny_mono (setItem_ok (st := { st₄ with toks := st₄.toks + 1 }) (K := K) m₄.rel (show Den st₄.heap ρ₄ _ _ from dj.mid m₄ m₂.rel) (.int _ _) q' k₄) (fun _ _ x => (x.trans (Mid.toks m₄.rel _)).trans m) fun _ _ x => x
    · rename_i x p
      try dsimp only at h
      cases e : get s.loc x with
      | none => rw [e] at h; exact h.elim
      | some a =>
        rw [e] at h
        refine wpAny_AugAssign_Name (loadLocal_ok (Q := fun v s' => wpAny (model prog w) A _ _ F0 s') O R e fun v d => ?_)
        refine H.evk O hA R h fun nv st₁ ρ₁ sn s₁ m₁ d₁ k₁ => ?_
        cases a <;> first | exact k₁.elim | skip
        cases sn <;> first | exact k₁.elim | skip
        cases op <;> first | exact k₁.elim | skip
        have do' := d.mid m₁ R
        cases do'
        cases d₁
        refine iadd_int ?_
        exact wpAny_mono (store_ok (st := { st₁ with toks := st₁.toks + 1 }) (K := fun s'' => K .next s'') O m₁.rel (.int _ _) k₁) (fun r _ x => ((flow_next (r := r) x).trans (Mid.toks m₁.rel _)).trans m₁) fun _ _ x => x
  · -- For
    rename_i t it body orelse pos
    cases orelse with
    | cons _ _ => exact h.elim
    | nil =>
      try dsimp only at h
      split at h <;> first | exact h.elim | skip
      rename_i hs
      refine wpAny_For (H.evk O hA R h fun v st₁ ρ₁ sv s₁ m₁ d₁ k₁ => ?_) (isSet_folded hs)
      exact forOver_ok H O hA m₁ d₁ k₁
  · -- While
    rename_i t body orelse pos
    cases orelse with
    | cons _ _ => exact h.elim
    | nil =>
      try dsimp only at h
      split at h <;> first | exact h.elim | skip
      exact while_ok H O hA R h
  · -- If
    rename_i t x y pos
    refine wpAny_If (H.tstk O hA R h fun c st₁ ρ₁ s₁ m₁ k₁ => ?_)
    cases c with
    | true => exact wpAny_mono (exs_ok H O hA m₁.rel k₁) (fun _ _ x => x.trans m₁) fun _ _ x => x
    | false => exact wpAny_mono (exs_ok H O hA m₁.rel k₁) (fun _ _ x => x.trans m₁) fun _ _ x => x
  · -- Expr
    rename_i e pos
    try dsimp only at h
    split at h <;> first | exact h.elim | skip
    rename_i hc
    refine wpAny_Expr_any (wpAny_mono (H.ev O hA R h) (fun v st₁ hv => ?_) fun _ _ x => x) ?_ (swaps_no hc)
    · obtain ⟨ρ₁, sv, s₁, m₁, d₁, k₁⟩ := hv
      exact ⟨ρ₁, .next, s₁, m₁, .next, k₁⟩
    · unfold interactive
      rw [O.kind]; rfl
  · exact wpAny_Pass ⟨ρ, .next, s, .refl R, .next, h⟩
end
section
variable {prog : Program} {w : World} {b : Heap} {env : Env} {A : Around} {ρ ρ' ρ₂ : List Addr} {s s' s₂ : St} {st st' st₂ : Shared} {C : Cfg} {B : Bun} {lv : Nat}
noncomputable def closL (cells : List (Str × Addr)) : List (Str × NameKind) → List (Str × Addr) → List (Str × Addr)
  | [], acc => acc
  | p :: r, acc => if p.2 == .free then closL cells r ((p.1, (cells.lookup p.1).getD 0) :: acc) else closL cells r acc
theorem closure_ok {scope : Scope} (h : ∀ p ∈ scope.names, p.2 = .free → ∃ c, env.cells.lookup p.1 = some c) : closureFor scope env = pure (closL env.cells scope.names []) := by
  have key : ∀ (names : List (Str × NameKind)) (acc : List (Str × Addr)), (∀ p ∈ names, p.2 = .free → ∃ c, env.cells.lookup p.1 = some c) →
      (forIn names acc fun x r => (do
        let (name, kind) := x
        if kind == .free then
          let c ← cellOf env name
          pure (ForInStep.yield ((name, c) :: r))
        else pure (ForInStep.yield r) : Sem (ForInStep (List (Str × Addr))))) = pure (closL env.cells names acc) := by
    intro names
    induction names with
    | nil => intro acc _; rfl
    | cons p r ih =>
      intro acc hp
      obtain ⟨n, k⟩ := p
      rw [List.forIn_cons]
      unfold closL
      cases hk : (k == NameKind.free) with
      | true =>
        obtain ⟨c, hc⟩ := hp (n, k) List.mem_cons_self (by simpa using hk)
        have e : cellOf env n = pure c := by unfold cellOf; rw [hc]
        simp only [hk, if_true, e, pure_bind, hc, Option.getD_some]
        exact ih _ fun p hm => hp p (List.mem_cons_of_mem _ hm)
      | false =>
        simp only [hk, if_false, Bool.false_eq_true, pure_bind]
        exact ih _ fun p hm => hp p (List.mem_cons_of_mem _ hm)
  have := key scope.names [] h
  unfold closureFor
  refine Eq.trans ?_ (show (pure (closL env.cells scope.names []) >>= fun cs => pure cs : Sem _) = _ from rfl)
  rw [← this]
theorem closL_mem {cells : List (Str × Addr)} {y : Str} {c : Addr} : ∀ {names : List (Str × NameKind)} {acc : List (Str × Addr)}, (y, c) ∈ closL cells names acc → (y, c) ∈ acc ∨ ((y, NameKind.free) ∈ names ∧ c = (cells.lookup y).getD 0)
  | [], _, h => .inl h
  | (n, k) :: r, acc, h => by
    unfold closL at h
    cases hk : (k == NameKind.free) with
    | true =>
      have hk' : k = .free := by simpa using hk
      subst hk'
      rw [if_pos hk] at h
      rcases closL_mem h with h | ⟨h1, h2⟩
      · rcases List.mem_cons.mp h with e | h
        · cases e; exact .inr ⟨List.mem_cons_self, rfl⟩
        · exact .inl h
      · exact .inr ⟨List.mem_cons_of_mem _ h1, h2⟩
    | false =>
      rw [if_neg (by rw [hk]; decide)] at h
      exact (closL_mem h).imp id fun ⟨h1, h2⟩ => ⟨List.mem_cons_of_mem _ h1, h2⟩
theorem closL_acc {cells : List (Str × Addr)} {q : Str × Addr} : ∀ {names : List (Str × NameKind)} {acc : List (Str × Addr)}, q ∈ acc → q ∈ closL cells names acc
  | [], _, h => h
  | (n, k) :: r, acc, h => by
    unfold closL
    split
    · exact closL_acc (List.mem_cons_of_mem _ h)
    · exact closL_acc h
theorem closL_has {cells : List (Str × Addr)} {y : Str} : ∀ {names : List (Str × NameKind)} {acc : List (Str × Addr)}, (y, NameKind.free) ∈ names → (y, (cells.lookup y).getD 0) ∈ closL cells names acc
  | (n, k) :: r, acc, h => by
    unfold closL
    rcases List.mem_cons.mp h with e | h
    · cases e
      show _ ∈ (if (NameKind.free == NameKind.free) = true then _ else _)
      rw [if_pos (by decide)]; exact closL_acc List.mem_cons_self
    · split
      · exact closL_has h
      · exact closL_has h
theorem lookup_mem {α : Type} {y : Str} {c : α} : ∀ {l : List (Str × α)}, l.lookup y = some c → (y, c) ∈ l
  | (n, d) :: r, h => by
    rw [List.lookup_cons] at h
    cases q : (y == n) with
    | true => rw [q] at h; cases h; rw [show y = n by simpa using q]; exact List.mem_cons_self
    | false => rw [q] at h; exact List.mem_cons_of_mem _ (lookup_mem h)
theorem mem_lookup {α : Type} {y : Str} {c : α} : ∀ {l : List (Str × α)}, (y, c) ∈ l → (l.lookup y).isSome = true
  | (n, d) :: r, h => by
    rw [List.lookup_cons]
    cases q : (y == n) with
    | true => rfl
    | false =>
      rcases List.mem_cons.mp h with e | h
      · cases e; simp at q
      · exact mem_lookup h
theorem get_mem {α : Type} {y : Str} {c : α} {l : List (Str × α)} (h : get l y = some c) : (y, c) ∈ l := by rw [get_lookup] at h; exact lookup_mem h
theorem mem_get {α : Type} {y : Str} {c : α} {l : List (Str × α)} (h : (y, c) ∈ l) : (get l y).isSome = true := by rw [get_lookup]; exact mem_lookup h
theorem compSc_facts {sc : Sc} : ∀ {names : List (Str × NameKind)}, compSc sc names = true → (∀ p ∈ names, p.2 ≠ .cell) ∧ (∀ p ∈ names, get names p.1 = some p.2) ∧ ∀ p ∈ names, p.2 = .free → get sc p.1 = some .cell
  | [], _ => ⟨fun _ h => (nomatch h), fun _ h => (nomatch h), fun _ h => (nomatch h)⟩
  | (n, k) :: r, h => by
    unfold compSc at h
    dsimp only at h
    cases q : get r n with
    | some _ => rw [q] at h; cases h
    | none =>
      rw [q] at h; dsimp only at h
      have ne : ∀ p ∈ r, strEq n p.1 = false := fun p hp => by
        cases e : strEq n p.1 with
        | false => rfl
        | true =>
          have e := strEq_iff.mp e
          have := mem_get (y := p.1) (c := p.2) (l := r) hp
          rw [← e, q] at this; cases this
      have fin : compSc sc r = true → k ≠ .cell → (k = .free → get sc n = some .cell) → _ := fun hr hk hf => by
        obtain ⟨h1, h2, h3⟩ := compSc_facts hr
        refine (⟨fun p hp => ?_, fun p hp => ?_, fun p hp e => ?_⟩ : (∀ p ∈ (n, k) :: r, p.2 ≠ .cell) ∧ (∀ p ∈ (n, k) :: r, get ((n, k) :: r) p.1 = some p.2) ∧ ∀ p ∈ (n, k) :: r, p.2 = .free → get sc p.1 = some .cell)
        · rcases List.mem_cons.mp hp with rfl | hp
          · exact hk
          · exact h1 p hp
        · rcases List.mem_cons.mp hp with rfl | hp
          · show (match strEq n n with | true => some k | false => get r n) = some k
            rw [strEq_self]
          · show (match strEq n p.1 with | true => some k | false => get r p.1) = some p.2
            rw [ne p hp]; exact h2 p hp
        · rcases List.mem_cons.mp hp with rfl | hp
          · exact hf e
          · exact h3 p hp e
      cases k <;> first | (cases h; done) | skip
      · exact fin h (by decide) (fun e => by cases e)
      · dsimp only at h
        cases qs : get sc n with
        | none => rw [qs] at h; cases h
        | some kd =>
          rw [qs] at h
          cases kd <;> first | (cases h; done) | skip
          exact fin h (by decide) fun _ => qs
      · exact fin h (by decide) (fun e => by cases e)
theorem relab_eq {scope : Scope} (O : EnvOk env) : (relabel scope env).names = relab env.scope.names scope.names := by
  show scope.names.map _ = _
  induction scope.names with
  | nil => rfl
  | cons p r ih =>
    obtain ⟨n, k⟩ := p
    rw [List.map_cons, ih]
    have hk : (env.scope.kind == ScopeKind.function) = true := by rw [O.kind]; rfl
    cases k <;> first | rfl | skip
    simp only [hk, Bool.and_true, kindOf_get]
    show _ = _ :: relab env.scope.names r
    refine congrArg (· :: relab env.scope.names r) ?_
    cases get env.scope.names n with
    | none => rfl
    | some kd => cases kd <;> rfl
theorem relab_ok {sc : Sc} : ∀ {names : List (Str × NameKind)}, okNames names = true → okNames (relab sc names) = true
  | [], _ => rfl
  | (n, k) :: r, h => by
    unfold okNames at h ⊢
    unfold relab
    rw [List.all_cons, Bool.and_eq_true] at h ⊢
    refine ⟨?_, relab_ok (names := r) h.2⟩
    have h1 := h.1
    cases k <;> first | exact h1 | skip
    dsimp only
    cases get sc n with
    | none => exact h1
    | some kd => cases kd <;> exact h1
theorem relab_get {sc : Sc} {y : Str} : ∀ {names : List (Str × NameKind)}, get (relab sc names) y = match get names y with
    | some .free => (match get sc y with | some .cell => some .cell | _ => some .free)
    | k => k
  | [] => rfl
  | (n, k) :: r => by
    unfold relab
    have ih := relab_get (sc := sc) (y := y) (names := r)
    have e : ∀ k', get ((n, k') :: relab sc r) y = match strEq n y with | true => some k' | false => get (relab sc r) y := fun _ => rfl
    have e' : get ((n, k) :: r) y = match strEq n y with | true => some k | false => get r y := rfl
    rw [e']
    cases q : strEq n y with
    | true =>
      have q' := strEq_iff.mp q
      subst q'
      cases k <;> first | (show get ((n, _) :: relab sc r) n = _; rw [e, q]) | skip
      dsimp only
      cases get sc n with
      | none => show get ((n, _) :: relab sc r) n = _; rw [e, q]
      | some kd => cases kd <;> (show get ((n, _) :: relab sc r) n = _; rw [e, q])
    | false =>
      dsimp only
      rw [← ih]
      cases k <;> first | (show get ((n, _) :: relab sc r) y = _; rw [e, q]) | skip
      dsimp only
      cases get sc n with
      | none => show get ((n, _) :: relab sc r) y = _; rw [e, q]
      | some kd => cases kd <;> (show get ((n, _) :: relab sc r) y = _; rw [e, q])
theorem freeIn_get {sc : Sc} {y : Str} {v : SV} : ∀ {l : List (Str × SV)}, get (freeIn sc l) y = some v → get l y = some v ∧ get sc y = some .cell
  | p :: r, h => by
    unfold freeIn at h
    have e : ∀ r', get (p :: r') y = match strEq p.1 y with | true => some p.2 | false => get r' y := fun _ => rfl
    rw [e r]
    cases q : strEq p.1 y with
    | true =>
      have q' := strEq_iff.mp q
      cases qs : get sc p.1 with
      | none =>
        rw [qs] at h
        have := (freeIn_get (l := r) h).2
        rw [← q', qs] at this; cases this
      | some kd =>
        rw [qs] at h
        cases kd <;> first
          | (have := (freeIn_get (l := r) h).2; rw [← q', qs] at this; cases this; done)
          | skip
        dsimp only at h
        rw [e, q] at h
        exact ⟨h, q' ▸ qs⟩
    | false =>
      dsimp only
      cases qs : get sc p.1 with
      | none => rw [qs] at h; exact freeIn_get (l := r) h
      | some kd =>
        rw [qs] at h
        cases kd <;> first | exact freeIn_get (l := r) h | skip
        dsimp only at h
        rw [e, q] at h
        exact freeIn_get (l := r) h
theorem get_freeIn {sc : Sc} {y : Str} {v : SV} : ∀ {l : List (Str × SV)}, get l y = some v → get sc y = some .cell → get (freeIn sc l) y = some v
  | p :: r, h, hs => by
    unfold freeIn
    have e : ∀ r', get (p :: r') y = match strEq p.1 y with | true => some p.2 | false => get r' y := fun _ => rfl
    rw [e r] at h
    cases q : strEq p.1 y with
    | true =>
      rw [q] at h
      rw [strEq_iff.mp q, hs]
      dsimp only
      rw [e, q]; exact h
    | false =>
      rw [q] at h
      have ih := get_freeIn (l := r) h hs
      cases get sc p.1 with
      | none => exact ih
      | some kd =>
        cases kd <;> first | exact ih | skip
        dsimp only
        rw [e, q]; exact ih
end
section
variable {prog : Program} {w : World} {b : Heap} {env : Env} {A : Around} {ρ ρ' ρ₂ : List Addr} {s s' s₂ : St} {st st' st₂ : Shared} {B : Bun} {lv : Nat} {scope : Scope} {cl : List (Str × Addr)} {C D I : Addr} {h h' : Heap} {m : Str → Option Value}
/-- a comprehension's environment, as the machine makes it -/
structure CEnv (env : Env) (scope : Scope) (C : Addr) (cl : List (Str × Addr)) : Prop where
  O : EnvOk (compEnvC scope cl C env)
  sc : (compEnvC scope cl C env).scope.names = relab env.scope.names scope.names
  up : ∀ x c, (x, c) ∈ cl → env.cells.lookup x = some c ∧ cl.lookup x = some c ∧ get (relab env.scope.names scope.names) x = some .cell ∧ get env.scope.names x = some .cell
  cap : ∀ x, get (relab env.scope.names scope.names) x = some .cell → ∃ c, (x, c) ∈ cl
theorem cenv_ok (O : EnvOk env) (h1 : compSc env.scope.names scope.names = true) (h2 : okNames scope.names = true) (h3 : scope.kind = .function) (C : Addr) : CEnv env scope C (closL env.cells scope.names []) := by
  obtain ⟨f1, f2, f3⟩ := compSc_facts h1
  have sc : (compEnvC scope (closL env.cells scope.names []) C env).scope.names = relab env.scope.names scope.names := relab_eq O
  have cap : ∀ x, get (relab env.scope.names scope.names) x = some .cell → ∃ c, (x, c) ∈ closL env.cells scope.names [] := fun x hx => by
    rw [relab_get] at hx
    cases q : get scope.names x with
    | none => rw [q] at hx; cases hx
    | some k =>
      have hm := get_mem q
      rw [q] at hx
      cases k <;> first | (cases hx; done) | exact absurd rfl (f1 _ hm) | exact ⟨_, closL_has hm⟩
  have up : ∀ x c, (x, c) ∈ closL env.cells scope.names [] → env.cells.lookup x = some c ∧ get (relab env.scope.names scope.names) x = some .cell ∧ get env.scope.names x = some .cell := fun x c hm => by
    rcases closL_mem hm with hm | ⟨hf, rfl⟩
    · cases hm
    · have g := f3 _ hf rfl
      obtain ⟨c, hc⟩ := Option.isSome_iff_exists.mp (O.cells x (by rw [kindOf_get]; exact g))
      refine ⟨by rw [hc]; rfl, ?_, g⟩
      have g2 := f2 _ hf
      dsimp only at g g2
      rw [relab_get, g2]
      dsimp only
      rw [g]
  refine ⟨⟨?_, O.glob, O.blt, ?_, fun x hx => ?_⟩, sc, fun x c hm => ?_, cap⟩
  · show (relabel scope env).kind = _
    exact h3
  · rw [sc]; exact relab_ok h2
  · rw [kindOf_get, sc] at hx
    obtain ⟨c, hc⟩ := cap x hx
    exact mem_lookup hc
  · obtain ⟨u1, u2, u3⟩ := up x c hm
    refine ⟨u1, ?_, u2, u3⟩
    obtain ⟨c', hc'⟩ := Option.isSome_iff_exists.mp (mem_lookup hm)
    have u1' := (up x c' (lookup_mem hc')).1
    rw [u1] at u1'; cases u1'
    exact hc'
theorem CEnv.cells (Z : CEnv env scope C cl) {c : Addr} (hc : c ∈ cl.map (·.2)) : ∃ x, (x, c) ∈ cl := by
  obtain ⟨⟨x, c'⟩, hm, rfl⟩ := List.mem_map.mp hc
  exact ⟨x, hm⟩
theorem CEnv.sub (Z : CEnv env scope C cl) {c : Addr} (hc : c ∈ cl.map (·.2)) : c ∈ env.cells.map (·.2) := by
  obtain ⟨x, hm⟩ := Z.cells hc
  exact cells_mem (Z.up x c hm).1
theorem Rel.inner0 (Z : CEnv env scope C cl) (R : Rel prog w b env ρ s h) (hn : h.Ns C m) (hC : Apart env ρ C) (hb : b.get? C = none) {loc : List (Str × SV)} (hh : ∀ y sv, get loc y = some sv → Holds (compEnvC scope cl C env) h ρ m y sv) :
    Rel prog w b (compEnvC scope cl C env) ρ ⟨loc, s.led⟩ h := by
  refine ⟨R.led, R.stays, ⟨m, hn, hh⟩, hb, fun c hc => R.abc c (Z.sub hc), fun a ha => ?_, fun x y c hx hy => ?_⟩
  · rcases List.mem_cons.mp ha with rfl | ha
    · exact hC.1
    · exact R.off a (List.mem_cons_of_mem _ (Z.sub ha))
  · exact R.inj x y c (Z.up _ _ (lookup_mem hx)).1 (Z.up _ _ (lookup_mem hy)).1
theorem kind_inner (Z : CEnv env scope C cl) (x : Str) : (compEnvC scope cl C env).kindOf x = get (relab env.scope.names scope.names) x := by rw [kindOf_get, Z.sc]
theorem Rel.inner (Z : CEnv env scope C cl) (R : Rel prog w b env ρ s h) (hn : h.Ns C m) (hC : Apart env ρ C) (hb : b.get? C = none) {x : Str} {sv : SV} {v : Value} (hx : get (relab env.scope.names scope.names) x = some .local) (hv : m x = some v) (d : Den h ρ sv v) :
    Rel prog w b (compEnvC scope cl C env) ρ ⟨(x, sv) :: freeIn (relab env.scope.names scope.names) s.loc, s.led⟩ h := by
  refine R.inner0 Z hn hC hb fun y su e => ?_
  have e' : get ((x, sv) :: freeIn (relab env.scope.names scope.names) s.loc) y = match strEq x y with | true => some sv | false => get (freeIn (relab env.scope.names scope.names) s.loc) y := rfl
  rw [e'] at e
  cases q : strEq x y with
  | true =>
    rw [q] at e; cases e
    obtain rfl := strEq_iff.mp q
    exact ⟨v, d, .inl ⟨by rw [kind_inner Z]; exact hx, hv⟩⟩
  | false =>
    rw [q] at e
    obtain ⟨e1, e2⟩ := freeIn_get e
    obtain ⟨c, hc⟩ := Z.cap y e2
    obtain ⟨u1, u2, u3, u4⟩ := Z.up y c hc
    obtain ⟨m', _, hh⟩ := R.frame
    obtain ⟨u, du, k⟩ := hh y su e1
    refine ⟨u, du, .inr ⟨.inl (by rw [kind_inner Z]; exact u3), c, u2, ?_⟩⟩
    rcases k with ⟨k, _⟩ | ⟨_, c', hc', hi⟩
    · rw [kindOf_get, u4] at k; cases k
    · rw [u1] at hc'; cases hc'; exact hi
/-- back from a comprehension's piece to the frame around it -/
theorem Mid.outer (Z : CEnv env scope C cl) (M : Mid prog w b env ρ st ρ' s' st') (hs : st.heap.get? C = none) (hb : b.get? C = none) (hC : C ∉ xs env) (N : Mid prog w b (compEnvC scope cl C env) ρ' st' ρ₂ s₂ st₂)
    (hl : agree (freeIn (relab env.scope.names scope.names) s'.loc) s₂.loc) (so : Soft st'.heap (xs (compEnvC scope cl C env))) :
    Mid prog w b env ρ st ρ₂ ⟨s'.loc, s₂.led⟩ st₂ := by
  have R := M.rel
  have x := N.ext
  obtain ⟨m, hn, hh⟩ := R.frame
  obtain ⟨m₂, hn₂, hh₂⟩ := N.rel.frame
  have Lout : env.locals ∉ xs (compEnvC scope cl C env) := fun hm => by
    rcases List.mem_cons.mp hm with e | hm
    · exact hC ((show env.locals = C from e) ▸ List.mem_cons_self)
    · obtain ⟨_, v, hcl⟩ := R.abc _ (Z.sub hm)
      exact cell_ne hn hcl rfl
  have Lρ : env.locals ∉ ρ' := R.off _ List.mem_cons_self
  have xin : ∀ a ∈ xs (compEnvC scope cl C env), a = C ∨ a ∈ xs env := fun a ha => by
    rcases List.mem_cons.mp ha with e | ha
    · exact .inl e
    · exact .inr (List.mem_cons_of_mem _ (Z.sub ha))
  refine ⟨N.os.trans M.os, N.gens.trans M.gens, ⟨fun i a e => x.pre i a (M.ext.pre i a e), fun a o e nX nr => ?_, fun a hm n => ?_, fun a o e nX => ?_⟩, ⟨N.rel.led, N.rel.stays, ⟨m, ?_, fun y sv e => ?_⟩, R.above, fun c hc => ?_, fun a ha hm => ?_, R.inj⟩⟩
  · have e1 := M.ext.keep a o e nX nr
    refine x.keep a o e1 (fun q => ?_) (M.ext.off e nr)
    rcases xin a q with rfl | q
    · rw [hs] at e; cases e
    · exact nX q
  · by_cases q : a ∈ ρ'
    · exact M.ext.fresh a q n
    · have f := x.fresh a hm q
      cases e : st.heap.get? a with
      | none => rfl
      | some o =>
        by_cases qx : a ∈ xs env
        · obtain ⟨o', e', _⟩ := R.soft a qx
          rw [f] at e'; cases e'
        · obtain ⟨o', e'⟩ := M.ext.live a o e qx
          rw [f] at e'; cases e'
  · obtain ⟨o1, e1⟩ := M.ext.live a o e nX
    refine x.live a o1 e1 fun q => ?_
    rcases xin a q with rfl | q
    · rw [hs] at e; cases e
    · exact nX q
  · obtain ⟨o, es, ep, e, r⟩ := hn
    exact ⟨o, es, ep, x.keep _ o e Lout Lρ, r⟩
  · obtain ⟨v, dn, k⟩ := hh y sv e
    rcases k with k | ⟨k, c, ec, hi⟩
    · exact ⟨v, dn.ext x so, .inl k⟩
    · by_cases hc : c ∈ cl.map (·.2)
      · obtain ⟨y', hm⟩ := Z.cells hc
        obtain ⟨u1, u2, u3, u4⟩ := Z.up y' c hm
        obtain rfl := R.inj y y' c ec u1
        have g : get s₂.loc y = some sv := agree_get hl (get_freeIn e u3)
        obtain ⟨v2, d2, k2⟩ := hh₂ y sv g
        rcases k2 with ⟨k2, _⟩ | ⟨_, c', hc', hi'⟩
        · rw [kind_inner Z, u3] at k2; cases k2
        · have hc'' : cl.lookup y = some c' := hc'
          rw [u2] at hc''; cases hc''
          exact ⟨v2, d2, .inr ⟨k, c, ec, hi'⟩⟩
      · refine ⟨v, dn.ext x so, .inr ⟨k, c, ec, ?_⟩⟩
        obtain ⟨o, eo, dd⟩ := hi
        have cx : c ∈ xs env := List.mem_cons_of_mem _ (cells_mem ec)
        refine ⟨o, x.keep c o eo (fun q => ?_) (R.off c cx), dd⟩
        rcases List.mem_cons.mp q with q | q
        · exact hC ((show c = C from q) ▸ cx)
        · exact hc q
  · obtain ⟨k1, v, o, eo, dd⟩ := R.abc c hc
    by_cases hcl : c ∈ cl.map (·.2)
    · exact N.rel.abc c hcl
    · have cx : c ∈ xs env := List.mem_cons_of_mem _ hc
      refine ⟨k1, v, o, x.keep c o eo (fun q => ?_) (R.off c cx), dd⟩
      rcases List.mem_cons.mp q with q | q
      · exact hC ((show c = C from q) ▸ cx)
      · exact hcl q
  · by_cases q : a ∈ xs (compEnvC scope cl C env)
    · exact N.rel.off a q hm
    · obtain ⟨o, eo, _⟩ := R.soft a ha
      exact x.off eo (R.off a ha) hm
theorem conds_ok {ifs : List Expr} {K : Bool → St → Prop} (H : BunOk prog w b lv B) (O : EnvOk env) (hA : AOk lv A) (R : Rel prog w b env ρ s st.heap) (h : condsW B env.scope.names ifs s K) :
    wpAny (model prog w) A (forIn ifs true fun c r => if r = true then do let ok ← isTrue c env (eval c env); pure (ForInStep.yield ok) else pure (ForInStep.yield r)) (PostB prog w b env ρ st K) F0 st := by
  unfold condsW at h
  cases ifs with
  | nil => exact wpAny_tests_nil ⟨ρ, s, .refl R, h⟩
  | cons c r =>
    cases r with
    | nil => exact wpAny_tests_one (H.tst O hA R h)
    | cons _ _ => exact h.elim
end
section
variable {prog : Program} {w : World} {b : Heap} {env : Env} {A : Around} {ρ ρ' ρ₁ ρ₂ : List Addr} {s s' s₂ : St} {st st' st₁ st₂ : Shared} {B : Bun} {lv : Nat} {scope : Scope} {cl : List (Str × Addr)} {C D I : Addr} {h h' : Heap} {m : Str → Option Value} {loc : List (Str × SV)} {acc : List SV} {led : List SO}
/-- a comprehension at the head of a turn -/
structure CAt (prog : Program) (w : World) (b : Heap) (env : Env) (ρ : List Addr) (st : Shared) (C D I : Addr) (loc : List (Str × SV)) (ρ₁ : List Addr) (acc : List SV) (led : List SO) (st₁ : Shared) : Prop where
  mid : Mid prog w b env ρ st ρ₁ ⟨loc, led⟩ st₁
  ns : ∃ m, st₁.heap.Ns C m
  hC : Apart env ρ₁ C
  hD : Apart env ρ₁ D
  hI : Apart env ρ₁ I
  lI : ∃ o, st₁.heap.get? I = some o
  lst : ∃ ys, st₁.heap.get? D = some (PyProof.Rows.LCg.lst ys) ∧ Dens st₁.heap ρ₁ acc ys
/-- a comprehension behind its last turn -/
structure CEnd (prog : Program) (w : World) (b : Heap) (env : Env) (ρ : List Addr) (st : Shared) (C D : Addr) (loc : List (Str × SV)) (ρ₁ : List Addr) (acc : List SV) (led : List SO) (st₁ : Shared) : Prop where
  mid : Mid prog w b env ρ st ρ₁ ⟨loc, led⟩ st₁
  ns : ∃ m, st₁.heap.Ns C m
  hC : Apart env ρ₁ C
  hD : Apart env ρ₁ D
  lst : ∃ ys, st₁.heap.get? D = some (PyProof.Rows.LCg.lst ys) ∧ Dens st₁.heap ρ₁ acc ys
structure Free3 (b h : Heap) (C D I : Addr) : Prop where
  sC : h.get? C = none
  sD : h.get? D = none
  sI : h.get? I = none
  bC : b.get? C = none
  bD : b.get? D = none
  bI : b.get? I = none
  CD : C ≠ D
  CI : C ≠ I
  DI : D ≠ I
theorem ns_keep {h h' : Heap} (hn : h.Ns C m) (k : ∀ o, h.get? C = some o → h'.get? C = some o) : h'.Ns C m := by
  obtain ⟨o, es, ep, e, r⟩ := hn
  exact ⟨o, es, ep, k o e, r⟩
theorem ext_one {h h' : Heap} {X : Addr} (k : ∀ a o, a ≠ X → h.get? a = some o → h'.get? a = some o) : Ext [X] ρ h ρ h' :=
  ⟨fun _ _ e => e, fun a o e n _ => k a o (by simpa using n) e, fun _ m n => absurd m n, fun a o e n => ⟨o, k a o (by simpa using n) e⟩⟩
theorem soft_ns {h : Heap} (hn : h.Ns C m) : Soft h [C] := fun a hm => by
  rw [List.mem_singleton.mp hm]
  obtain ⟨o, es, ep, e, d, _⟩ := hn
  refine ⟨o, e, fun xs n _ q => ?_, fun vs _ q => ?_⟩ <;> (rw [d] at q; cases q)
theorem soft_lst {h : Heap} {ys : List Value} (e : h.get? D = some (PyProof.Rows.LCg.lst ys)) : Soft h [D] := fun a hm => by
  rw [List.mem_singleton.mp hm]
  exact ⟨_, e, fun xs n c _ => (by injection c with c; exact absurd c (by decide)), fun vs c _ => (by injection c with c; exact absurd c (by decide))⟩
theorem CAt.iter {tk : Nat} (c : CAt prog w b env ρ st C D I loc ρ₁ acc led st₁) (f : Free3 b st.heap C D I) (k : ∀ a o, a ≠ I → st₁.heap.get? a = some o → h'.get? a = some o) (hl : ∃ o, h'.get? I = some o) (so : Soft st₁.heap [I]) :
    CAt prog w b env ρ st C D I loc ρ₁ acc led { st₁ with heap := h', toks := tk } := by
  obtain ⟨m, hn⟩ := c.ns
  obtain ⟨ys, e, d⟩ := c.lst
  exact ⟨c.mid.iter c.hI f.sI f.bI k so, ⟨m, ns_keep hn fun o => k C o f.CI⟩, c.hC, c.hD, c.hI, hl, ⟨ys, k D _ f.DI e, d.ext (ext_one k) so⟩⟩
theorem CAt.put {tk : Nat} (c : CAt prog w b env ρ st C D I loc ρ₁ acc led st₁) (f : Free3 b st.heap C D I) (k : ∀ a o, a ≠ C → st₁.heap.get? a = some o → h'.get? a = some o) (hn' : h'.Ns C m) :
    CAt prog w b env ρ st C D I loc ρ₁ acc led { st₁ with heap := h', toks := tk } := by
  obtain ⟨m₀, hn⟩ := c.ns
  obtain ⟨ys, e, d⟩ := c.lst
  obtain ⟨oI, eI⟩ := c.lI
  have so := soft_ns hn
  exact ⟨c.mid.iter c.hC f.sC f.bC k so, ⟨m, hn'⟩, c.hC, c.hD, c.hI, ⟨oI, k I _ (Ne.symm f.CI) eI⟩, ⟨ys, k D _ (Ne.symm f.CD) e, d.ext (ext_one k) so⟩⟩
theorem CAt.app {tk : Nat} {y : SV} {v : Value} {ys : List Value} (c : CAt prog w b env ρ st C D I loc ρ₁ acc led st₁) (f : Free3 b st.heap C D I) (k : ∀ a o, a ≠ D → st₁.heap.get? a = some o → h'.get? a = some o)
    (e : st₁.heap.get? D = some (PyProof.Rows.LCg.lst ys)) (ds : Dens st₁.heap ρ₁ acc ys) (d : Den st₁.heap ρ₁ y v) (e' : h'.get? D = some (PyProof.Rows.LCg.lst (ys ++ [v]))) :
    CAt prog w b env ρ st C D I loc ρ₁ (acc ++ [y]) led { st₁ with heap := h', toks := tk } := by
  obtain ⟨m, hn⟩ := c.ns
  obtain ⟨oI, eI⟩ := c.lI
  have so := soft_lst e
  exact ⟨c.mid.iter c.hD f.sD f.bD k so, ⟨m, ns_keep hn fun o => k C o f.CD⟩, c.hC, c.hD, c.hI, ⟨oI, k I _ (Ne.symm f.DI) eI⟩, ⟨ys ++ [v], e', (ds.append (.cons d .nil)).ext (ext_one k) so⟩⟩
theorem xs_in (Z : CEnv env scope C cl) {a : Addr} (ha : a ∈ xs (compEnvC scope cl C env)) : a = C ∨ a ∈ xs env := by
  rcases List.mem_cons.mp ha with e | ha
  · exact .inl e
  · exact .inr (List.mem_cons_of_mem _ (Z.sub ha))
theorem CAt.inner (c : CAt prog w b env ρ st C D I loc ρ₁ acc led st₁) (f : Free3 b st.heap C D I) (Z : CEnv env scope C cl) (N : Mid prog w b (compEnvC scope cl C env) ρ₁ st₁ ρ₂ s₂ st₂)
    (hl : agree (freeIn (relab env.scope.names scope.names) loc) s₂.loc) (so : Soft st₁.heap (xs (compEnvC scope cl C env))) : CAt prog w b env ρ st C D I loc ρ₂ acc s₂.led st₂ := by
  obtain ⟨m₂, hn₂, _⟩ := N.rel.frame
  obtain ⟨ys, e, d⟩ := c.lst
  obtain ⟨oI, eI⟩ := c.lI
  have nD : D ∉ xs (compEnvC scope cl C env) := fun q => (xs_in Z q).elim (fun q => f.CD q.symm) c.hD.2
  have nI : I ∉ xs (compEnvC scope cl C env) := fun q => (xs_in Z q).elim (fun q => f.CI q.symm) c.hI.2
  exact ⟨c.mid.outer Z f.sC f.bC c.hC.2 N hl so, ⟨m₂, hn₂⟩, ⟨N.rel.off C List.mem_cons_self, c.hC.2⟩, ⟨N.ext.off e c.hD.1, c.hD.2⟩, ⟨N.ext.off eI c.hI.1, c.hI.2⟩, ⟨oI, N.ext.keep I oI eI nI c.hI.1⟩,
    ⟨ys, N.ext.keep D _ e nD c.hD.1, d.ext N.ext so⟩⟩
theorem comp_loop {elt iter : Expr} {ifs : List Expr} {x : Str} {px pos : Pos} {n : Nat} {it : Nat → SV} {ok : List SO → Prop} {Sx : Nat → List Addr → Heap → Prop} (J : Nat → List SV → List SO → Prop) {Kf : List SV → List SO → Prop} {RR : Result → Shared → Prop}
    (H : BunOk prog w b lv B) (hA : AOk lv A) (Z : CEnv env scope C cl) (W : ∀ env', Src prog w b env' A I n it ok Sx) (hkind : scope.kind = .function) (hx : get (relab env.scope.names scope.names) x = some .local) (hn : n ≤ 1000) (f : Free3 b st.heap C D I)
    (so : ∀ {i ρ h}, Sx i ρ h → Soft h [I]) (c0 : CAt prog w b env ρ st C D I loc ρ' [] led st') (s0 : Sx 0 ρ' st'.heap) (j0 : J 0 [] led)
    (step : ∀ i acc led, i < n → J i acc led → ok led ∧ condsW B (relab env.scope.names scope.names) ifs ⟨(x, it i) :: freeIn (relab env.scope.names scope.names) loc, led⟩ fun c s =>
      brn c (B.ev (relab env.scope.names scope.names) elt s fun y s' => agree (freeIn (relab env.scope.names scope.names) loc) s'.loc ∧ J (i + 1) (acc ++ [y]) s'.led) (agree (freeIn (relab env.scope.names scope.names) loc) s.loc ∧ J (i + 1) acc s.led))
    (fin : ∀ acc led, J n acc led → ok led ∧ Kf acc led)
    (hR : ∀ ρ₁ acc led st₁, CEnd prog w b env ρ st C D loc ρ₁ acc led st₁ → acc.length ≤ 1000 → Kf acc led → RR (.ok .next) st₁) :
    codeAny (model prog w) A (.compLoop (.ListComp elt [⟨.Name x px, iter, ifs, 0⟩] scope pos) 0 (.ref I) (.ref D) (compEnvC scope cl C env)) RR st' := by
  refine codeAny_compLoop_tests (fun k st₁ => ∃ i ρ₁ acc led, k + i = n ∧ acc.length ≤ i ∧ CAt prog w b env ρ st C D I loc ρ₁ acc led st₁ ∧ Sx i ρ₁ st₁.heap ∧ J i acc led) (fun k st₁ hk => ?_) n ⟨0, ρ', [], led, rfl, Nat.le_refl _, c0, s0, j0⟩
  obtain ⟨i, ρ₁, acc, led, hki, hlen, c, hS, hJ⟩ := hk
  have nD : ∀ {ρ₁ acc led st₁}, CAt prog w b env ρ st C D I loc ρ₁ acc led st₁ → D ∉ xs (compEnvC scope cl C env) := fun c q => (xs_in Z q).elim (fun q => f.CD q.symm) c.hD.2
  have nI : I ∉ xs (compEnvC scope cl C env) := fun q => (xs_in Z q).elim (fun q => f.CI q.symm) c.hI.2
  have hLC : env.locals ≠ C := fun e => c.hC.2 (e ▸ List.mem_cons_self)
  by_cases hlt : i < n
  · obtain ⟨hok, hst⟩ := step i acc led hlt hJ
    refine wpAny_mono ((W env).item hlt c.mid.rel hok hS fun v h₁ tk d kp hl₁ hS₁ => ?_) (fun _ _ x => x) noted_of
    have c₁ : CAt prog w b env ρ st C D I loc ρ₁ acc led { st₁ with heap := h₁, toks := tk } := c.iter f kp hl₁ (so hS)
    have d₁ : Den h₁ ρ₁ (it i) v := d.ext (ext_one kp) (so hS)
    obtain ⟨m₁, hn₁⟩ := c₁.ns
    have hxk : (compEnvC scope cl C env).kindOf x = some .local := by rw [kind_inner Z]; exact hx
    refine wpAny_assign_Name (wpAny_storeName_local hxk hn₁ (fun h₂ hn₂ hs₂ => ?_) (by simp [compEnvC, relabel, hkind]))
    have kp₂ : ∀ a o, a ≠ C → h₁.get? a = some o → h₂.get? a = some o := fun a o n e => (hs₂.2 a n).trans e
    have c₂ : CAt prog w b env ρ st C D I loc ρ₁ acc led { st₁ with heap := h₂, toks := tk + 1 } := c₁.put (tk := tk + 1) f kp₂ hn₂
    have sC := soft_ns hn₁
    have d₂ : Den h₂ ρ₁ (it i) v := d₁.ext (ext_one kp₂) sC
    have R₂ : Rel prog w b (compEnvC scope cl C env) ρ₁ ⟨(x, it i) :: freeIn (relab env.scope.names scope.names) loc, led⟩ h₂ :=
      Rel.inner Z c₂.mid.rel hn₂ c₂.hC f.bC hx (if_pos rfl) d₂
    obtain ⟨oI, eI⟩ := hl₁
    have eI₂ : h₂.get? I = some oI := kp₂ I _ (Ne.symm f.CI) eI
    have R₁ : Rel prog w b (compEnvC scope cl C env) ρ₁ ⟨[], led⟩ h₁ := Rel.inner0 (s := ⟨loc, led⟩) Z c₁.mid.rel hn₁ c₁.hC f.bC fun _ _ e => by cases e
    have hS₂ : Sx (i + 1) ρ₁ h₂ := (W (compEnvC scope cl C env)).frame hS₁ ((ext_one kp₂).mono fun a hm => by rw [List.mem_singleton.mp hm]; exact List.mem_cons_self) R₁.soft fun o e => kp₂ I _ (Ne.symm f.CI) e
    have R₂' := R₂
    rw [← Z.sc] at hst R₂'
    refine wpAny_mono (conds_ok (st := { st₁ with heap := h₂, toks := tk + 1 }) H Z.O hA R₂' hst) (fun r st₃ hr => ?_) noted_of
    obtain ⟨ρ₃, s₃, N₃, hb⟩ := hr
    cases r with
    | false =>
      obtain ⟨hl₃, hj₃⟩ := hb
      rw [if_neg (by decide)]
      rw [Z.sc] at hl₃
      exact ⟨k - 1, by omega, i + 1, ρ₃, acc, s₃.led, by omega, by omega, c₂.inner f Z N₃ hl₃ R₂.soft, (W (compEnvC scope cl C env)).frame hS₂ N₃.ext R₂.soft fun o e => N₃.ext.keep I o e nI c₂.hI.1, hj₃⟩
    | true =>
      rw [if_pos rfl]
      refine wpAny_mono (H.ev Z.O hA N₃.rel hb) (fun y st₄ hy => ?_) noted_of
      obtain ⟨ρ₄, sy, s₄, N₄, dy, hl₄, hj₄⟩ := hy
      rw [Z.sc] at hl₄
      have N := N₃.trans N₄
      have c₄ := c₂.inner f Z N hl₄ R₂.soft
      obtain ⟨ys, eD, dD⟩ := c₄.lst
      have hly := dD.length
      refine append_at (hsz := by show ys.toArray.size ≤ sizeLine; rw [List.size_toArray, hly]; simp only [sizeLine]; omega) eD fun h₅ hs₅ hD₅ => ?_
      have kp₅ : ∀ a o, a ≠ D → st₄.heap.get? a = some o → h₅.get? a = some o := fun a o n e => (hs₅.2 a n).trans e
      have hS₄ : Sx (i + 1) ρ₄ st₄.heap := (W (compEnvC scope cl C env)).frame hS₂ N.ext R₂.soft fun o e => N.ext.keep I o e nI c₂.hI.1
      have sD := soft_lst eD
      have hS₅ : Sx (i + 1) ρ₄ h₅ := (W { compEnvC scope cl C env with locals := D }).frame hS₄ ((ext_one kp₅).mono fun a hm => by rw [List.mem_singleton.mp hm]; exact List.mem_cons_self) (fun a hm => by
        rcases List.mem_cons.mp hm with rfl | hm
        · exact sD _ (List.mem_singleton.mpr rfl)
        · exact N.rel.soft a (List.mem_cons_of_mem _ hm)) fun o e => kp₅ I _ (Ne.symm f.DI) e
      exact ⟨k - 1, by omega, i + 1, ρ₄, acc ++ [sy], s₄.led, by omega, by simp; omega, c₄.app (tk := st₄.toks) f kp₅ eD dD dy (hD₅.trans (congrArg some (PyProof.Rows.LCg.lst_snoc ys y))), hS₅, hj₄⟩
  · obtain rfl : i = n := by omega
    obtain ⟨hok, hk⟩ := fin acc led hJ
    refine wpAny_mono ((W env).done c.mid.rel hok hS fun h₁ tk kp => ?_) (fun _ _ x => x) noted_of
    obtain ⟨m, hn⟩ := c.ns
    obtain ⟨ys, e, d⟩ := c.lst
    exact hR _ _ _ _ ⟨c.mid.iter c.hI f.sI f.bI kp (so hS), ⟨m, ns_keep hn fun o => kp C o f.CI⟩, c.hC, c.hD, ⟨ys, kp D _ f.DI e, d.ext (ext_one kp) (so hS)⟩⟩ (by omega) hk
end
section
variable {prog : Program} {w : World} {b : Heap} {env : Env} {A : Around} {ρ ρ' ρ₁ ρ₂ : List Addr} {s s' s₂ : St} {st st' st₁ st₂ : Shared} {Cf : Cfg} {B : Bun} {lv : Nat} {scope : Scope} {cl : List (Str × Addr)}
noncomputable def MakesComp (prog : Program) (w : World) (A : Around) (env : Env) (scope : Scope) (cl : List (Str × Addr)) (e : Expr) (RR : Value → Addr → Result → Shared → Prop) (it : Value) (s : Shared) : Prop :=
  wpAny (model prog w) A (newList []) (fun acc s₃ => wpAny (model prog w) A (newFunctionEnv scope env.globals cl [] env.qual none .none (some env)) (fun cenv s₄ =>
    codeAny (model prog w) A (.compStart e 0 it acc { cenv with scope := relabel scope env }) (RR acc cenv.locals) s₄) F0 s₃) F0 s
theorem comp_block {elt iter : Expr} {ifs : List Expr} {x : Str} {px pos : Pos} {n : Nat} {it : Nat → SV} {ok : List SO → Prop} {Sx : Nat → List Addr → Heap → Prop} (J : Nat → List SV → List SO → Prop) {Kf : List SV → List SO → Prop} {RR : Value → Addr → Result → Shared → Prop}
    (H : BunOk prog w b lv B) (hA : AOk lv A) (O : EnvOk env) (hc : compSc env.scope.names scope.names = true) (hnm : okNames scope.names = true) (hkind : scope.kind = .function) (hx : get (relab env.scope.names scope.names) x = some .local) (hn : n ≤ 1000)
    (M : Mid prog w b env ρ st ρ' s' st') (o : Obj) (ho : o.isFreed = false) (W : ∀ env', Src prog w b env' A st'.heap.objs.size n it ok Sx) (so : ∀ {i ρ h}, Sx i ρ h → Soft h [st'.heap.objs.size]) (s0 : Sx 0 ρ' (st'.heap.push o)) (j0 : J 0 [] s'.led)
    (step : ∀ i acc led, i < n → J i acc led → ok led ∧ condsW B (relab env.scope.names scope.names) ifs ⟨(x, it i) :: freeIn (relab env.scope.names scope.names) s'.loc, led⟩ fun c s =>
      brn c (B.ev (relab env.scope.names scope.names) elt s fun y s₂ => agree (freeIn (relab env.scope.names scope.names) s'.loc) s₂.loc ∧ J (i + 1) (acc ++ [y]) s₂.led) (agree (freeIn (relab env.scope.names scope.names) s'.loc) s.loc ∧ J (i + 1) acc s.led))
    (fin : ∀ acc led, J n acc led → ok led ∧ Kf acc led)
    (hR : ∀ C D ρ₁ acc led st₁, CEnd prog w b env ρ st C D s'.loc ρ₁ acc led st₁ → st.heap.get? C = none → b.get? C = none → st.heap.get? D = none → b.get? D = none → C ≠ D → acc.length ≤ 1000 → Kf acc led → RR (.ref D) C (.ok .next) st₁) :
    MakesComp prog w A env scope (closL env.cells scope.names []) (.ListComp elt [⟨.Name x px, iter, ifs, 0⟩] scope pos) RR (.ref st'.heap.objs.size) { st' with heap := st'.heap.push o } := by
  obtain ⟨f1, f2, f3⟩ := compSc_facts hc
  refine wpAny_newObj_type (wpAny_newFunctionEnv f1 (by intro y hy; simp at hy) (fun h₁ hns₁ hsb₁ => ?_) hkind)
  dsimp only at hns₁ hsb₁ ⊢
  generalize hH2 : (st'.heap.push o).push { cls := .type "list", dict := none, data := .seq ([] : List Value).toArray } = H2 at hns₁ hsb₁ ⊢
  have hDz : (st'.heap.push o).objs.size = st'.heap.objs.size + 1 := Heap.size_push ..
  have hCz : H2.objs.size = st'.heap.objs.size + 2 := by rw [← hH2, Heap.size_push, hDz]
  have hIz : st'.heap.objs.size = st'.heap.objs.size := rfl
  generalize hI : st'.heap.objs.size = I at *
  generalize hD : (st'.heap.push o).objs.size = D at *
  generalize hC : H2.objs.size = C at *
  have nCD : C ≠ D := by rw [hCz, hDz]; exact Nat.ne_of_gt (Nat.lt_succ_self _)
  have nCI : C ≠ I := by rw [hCz]; exact Nat.ne_of_gt (by omega)
  have nDI : D ≠ I := by rw [hDz]; exact Nat.ne_of_gt (Nat.lt_succ_self _)
  have fresh : ∀ a, I ≤ a → st'.heap.get? a = none := fun a ha => by
    cases e : st'.heap.get? a with
    | none => rfl
    | some o' => exact absurd (Heap.lt_size e) (Nat.not_lt.mpr (hI ▸ ha))
  have fb : ∀ a, I ≤ a → b.get? a = none := fun a ha => by
    cases e : b.get? a with
    | none => rfl
    | some x => have := M.rel.stays _ x e; rw [fresh a ha] at this; cases this
  have fs : ∀ a, I ≤ a → st.heap.get? a = none := fun a ha => by
    cases e : st.heap.get? a with
    | none => rfl
    | some x =>
      by_cases q : a ∈ xs env
      · obtain ⟨o', e', _⟩ := M.rel.soft _ q; rw [fresh a ha] at e'; cases e'
      · obtain ⟨o', e'⟩ := M.ext.live _ x e q; rw [fresh a ha] at e'; cases e'
  have ap : ∀ a, I ≤ a → Apart env ρ' a := fun a ha => ⟨fun m => (by obtain ⟨o', e'⟩ := M.rel.led.live _ m; rw [fresh a ha] at e'; cases e'), fun m => (by obtain ⟨o', e', _⟩ := M.rel.soft _ m; rw [fresh a ha] at e'; cases e')⟩
  have lC : I ≤ C := by omega
  have lD : I ≤ D := by omega
  have kp₁ : ∀ a o', (st'.heap.push o).get? a = some o' → h₁.get? a = some o' := fun a o' e => hsb₁.extBut a o' (fun q => (by have z := Heap.lt_size e; rw [hD, q] at z; exact absurd (show @LT.lt Nat _ C D from z) (by omega))) (Heap.get?_push_of_some _ (hH2 ▸ Heap.get?_push_of_some _ e))
  have kp : ∀ a o', st'.heap.get? a = some o' → h₁.get? a = some o' := fun a o' e => kp₁ a o' (Heap.get?_push_of_some _ e)
  have eI : h₁.get? I = some o := kp₁ I o (by rw [← hI]; exact Heap.get?_push_size _ ho)
  have eD : h₁.get? D = some (PyProof.Rows.LCg.lst []) := hsb₁.extBut _ _ (Ne.symm nCD) (Heap.get?_push_of_some _ (hH2 ▸ hD ▸ Heap.get?_push_size _ rfl))
  have Z := cenv_ok O hc hnm hkind C
  have M₁ : Mid prog w b env ρ st ρ' s' { st' with heap := h₁, toks := st'.toks + ([] : List (Str × Value)).length } := M.trans (Mid.grow M.rel kp)
  have c0 : CAt prog w b env ρ st C D I s'.loc ρ' [] s'.led { st' with heap := h₁, toks := st'.toks + ([] : List (Str × Value)).length } := ⟨M₁, ⟨_, hns₁⟩, ap C lC, ap D lD, ap I (Nat.le_refl _), ⟨o, eI⟩, ⟨[], eD, .nil⟩⟩
  have f : Free3 b st.heap C D I := ⟨fs C lC, fs D lD, fs I (Nat.le_refl _), fb C lC, fb D lD, fb I (Nat.le_refl _), nCD, nCI, nDI⟩
  have s1 : Sx 0 ρ' h₁ := by
    refine (W env).frame (h := st'.heap.push o) s0 (.grow kp₁) (fun a hm => ?_) fun o' => kp₁ I o'
    obtain ⟨o', e', r⟩ := M.rel.soft a hm
    exact ⟨o', Heap.get?_push_of_some _ e', r⟩
  have loop : ∀ s₃ : Shared, s₃ = { st' with heap := h₁, toks := st'.toks + ([] : List (Str × Value)).length } →
      codeAny (model prog w) A (.compLoop (.ListComp elt [⟨.Name x px, iter, ifs, 0⟩] scope pos) 0 (.ref I) (.ref D) (compEnvC scope (closL env.cells scope.names []) C env)) (RR (.ref D) C) s₃ := by
    rintro s₃ rfl
    exact comp_loop J H hA Z W hkind hx hn f so c0 s1 j0 step fin fun ρ₁ acc led st₁ c hl hk => hR C D ρ₁ acc led st₁ c f.sC f.bC f.sD f.bD nCD hl hk
  exact codeAny_compStart_list (loop _ rfl) ((W env).self (st := { st' with heap := h₁, toks := st'.toks + ([] : List (Str × Value)).length }) s1 (loop _ rfl))
end
section
variable {prog : Program} {w : World} {b : Heap} {env : Env} {A : Around} {ρ ρ' ρ₁ ρ₂ : List Addr} {s s' s₂ : St} {st st' st₁ st₂ : Shared} {Cf : Cfg} {B : Bun} {lv : Nat} {scope : Scope} {cl : List (Str × Addr)}
noncomputable def Fin (prog : Program) (w : World) (b : Heap) (env : Env) (ρ : List Addr) (st : Shared) (loc : List (Str × SV)) (K : KV) (RR : Value → Addr → Result → Shared → Prop) : Prop :=
  ∀ C D ρ₁ (l : SL) led st₁, CEnd prog w b env ρ st C D loc ρ₁ l.den led st₁ → st.heap.get? C = none → b.get? C = none → st.heap.get? D = none → b.get? D = none → C ≠ D → newObj (.list l) ⟨loc, led⟩ K → RR (.ref D) C (.ok .next) st₁
theorem lc_inv {β : Type} {qt : (β → Prop) → Prop} (hq : ∀ P, qt P → ∀ b, P b) {emb : β → SV} {xs : List β} {same : List SO → Prop} {α : Type} {S : St → α → List SO} {Ac : α → SL} {P : St → List β → α → Prop} {K : KV} {RR : Value → Addr → Result → Shared → Prop}
    {elt iter : Expr} {ifs : List Expr} {x : Str} {px pos : Pos} {it : Nat → SV} {n : Nat} {Sx : Nat → List Addr → Heap → Prop}
    (H : BunOk prog w b lv B) (hA : AOk lv A) (O : EnvOk env) (hc : compSc env.scope.names scope.names = true) (hnm : okNames scope.names = true) (hkind : scope.kind = .function) (hx : get (relab env.scope.names scope.names) x = some .local)
    (M : Mid prog w b env ρ st ρ' s' st') (o : Obj) (ho : o.isFreed = false) (W : ∀ env', Src prog w b env' A st'.heap.objs.size n it same Sx) (so : ∀ {i ρ h}, Sx i ρ h → Soft h [st'.heap.objs.size]) (s0 : Sx 0 ρ' (st'.heap.push o))
    (hl : n = xs.length) (hn : n ≤ 1000) (hit : ∀ i (h : i < xs.length), it i = emb xs[i])
    (h : lcInv qt emb same B (relab env.scope.names scope.names) (freeIn (relab env.scope.names scope.names) s'.loc) x elt ifs xs s' α S Ac P fun l led => newObj (.list l) { s' with led := led } K) (hR : Fin prog w b env ρ st s'.loc K RR) :
    MakesComp prog w A env scope (closL env.cells scope.names []) (.ListComp elt [⟨.Name x px, iter, ifs, 0⟩] scope pos) RR (.ref st'.heap.objs.size) { st' with heap := st'.heap.push o } := by
  obtain ⟨⟨a₀, hp₀, hl₀, ha₀⟩, hsame, turn, fin⟩ := h
  subst hl
  refine comp_block (Kf := fun acc led => ∃ l : SL, l.den = acc ∧ newObj (.list l) { s' with led := led } K) (fun i acc led => ∃ a, P s' (xs.take i) a ∧ led = S s' a ∧ (Ac a).den = acc) H hA O hc hnm hkind hx hn M o ho W so s0 ⟨a₀, hp₀, hl₀, ha₀⟩ (fun i acc led hi hJ => ?_) (fun acc led hJ => ?_)
    fun C D ρ₁ acc led st₁ c f1 f2 f3 f4 f5 _ hk => ?_
  · obtain ⟨a, hp, rfl, rfl⟩ := hJ
    obtain ⟨e1, e2⟩ := take_succ hi
    refine ⟨hsame a, ?_⟩
    rw [hit i hi, e2]
    exact hq _ (turn (xs.take i)) xs[i] (xs.drop (i + 1)) a e1 hp
  · obtain ⟨a, hp, rfl, rfl⟩ := hJ
    rw [List.take_length] at hp
    exact ⟨hsame a, _, rfl, (fin a hp).2⟩
  · obtain ⟨l, rfl, hk⟩ := hk
    exact hR C D ρ₁ l led st₁ c f1 f2 f3 f4 f5 hk
theorem lcOver_ok {v : SV} {u : Value} {K : KV} {RR : Value → Addr → Result → Shared → Prop} {elt iter : Expr} {ifs : List Expr} {x : Str} {px pos : Pos}
    (H : BunOk prog w b lv B) (hA : AOk lv A) (O : EnvOk env) (hc : compSc env.scope.names scope.names = true) (hnm : okNames scope.names = true) (hkind : scope.kind = .function) (hx : get (relab env.scope.names scope.names) x = some .local)
    (M : Mid prog w b env ρ st ρ' s' st') (d : Den st'.heap ρ' v u) (h : lcOver Cf B (relab env.scope.names scope.names) (freeIn (relab env.scope.names scope.names) s'.loc) x elt ifs v s' K) (hR : Fin prog w b env ρ st s'.loc K RR) :
    wpAny (model prog w) A (pyIter u) (MakesComp prog w A env scope (closL env.cells scope.names []) (.ListComp elt [⟨.Name x px, iter, ifs, 0⟩] scope pos) RR) F0 st' := by
  cases v <;> first | exact False.elim h | (unfold lcOver at h; try dsimp only at h)
  · -- a list of the ledger
    rename_i j
    try dsimp only at h
    split at h <;> first | exact h.elim | skip
    rename_i l q
    obtain ⟨ax, vs, n, rfl, ea, hg, dd⟩ := list_at M.rel d q
    refine wpAny_pyIter_list (isList_of hg) ?_
    have hs : same j l s'.led := by
      unfold itemOf at q
      cases e : atN s'.led j with
      | none => rw [e] at q; cases q
      | some o =>
        rw [e] at q
        cases o <;> first | (cases q; done) | skip
        cases q; exact e
    have so : ∀ {i ρ h}, (fun i (ρ : List Addr) (h : Heap) => h.IsListIter st'.heap.objs.size ax i ∧ atN ρ j = some ax) i ρ h → Soft h [st'.heap.objs.size] := fun hS => by
      obtain ⟨⟨o, eo, c, d⟩, _⟩ := hS; exact soft_iter eo d (by rw [c]; decide)
    have s0 : (fun i (ρ : List Addr) (h : Heap) => h.IsListIter st'.heap.objs.size ax i ∧ atN ρ j = some ax) 0 ρ' (st'.heap.push { cls := .type "list_iterator", data := .fields #[.ref ax, .int 0 0] }) := ⟨⟨_, Heap.get?_push_size _ rfl, rfl, rfl⟩, ea⟩
    cases l <;> first | exact h.elim | skip
    · rename_i l
      try dsimp only at h
      split at h <;> first | exact h.elim | skip
      rename_i hz
      have hz := Nat.le_of_ble_eq_true hz
      refine comp_block (Kf := fun acc led => newObj (.list (.lit acc)) { s' with led := led } K) (fun i acc led => same j (.lit l) led ∧ lcLit B (relab env.scope.names scope.names) (freeIn (relab env.scope.names scope.names) s'.loc) x elt ifs (same j (.lit l)) (l.drop i) acc led fun acc led => newObj (.list (.lit acc)) { s' with led := led } K)
        H hA O hc hnm hkind hx (show (SL.lit l).len ≤ 1000 from hz) M _ rfl (fun env' => src_list (j := j) (sl := .lit l) hA (iter_ne hg)) so s0 ⟨hs, h⟩ (fun i acc led hi hJ => ?_) (fun acc led hJ => ?_) fun C D ρ₁ acc led st₁ c f1 f2 f3 f4 f5 _ hk => hR C D ρ₁ (.lit acc) led st₁ c f1 f2 f3 f4 f5 hk
      · obtain ⟨h1, h2⟩ := hJ
        refine ⟨h1, ?_⟩
        rw [drop_at (d := SV.none) hi] at h2
        exact h2
      · obtain ⟨h1, h2⟩ := hJ
        have e : (l.drop (SL.lit l).len) = [] := List.drop_length
        rw [e] at h2
        exact ⟨h1, h2⟩
    all_goals
      try dsimp only at h
      split at h <;> first | exact h.elim | skip
      rename_i xs _ α S Ac P _
      first
      | exact lc_inv qAll_of H hA O hc hnm hkind hx M _ rfl (Sx := fun i ρ h => h.IsListIter st'.heap.objs.size ax i ∧ atN ρ j = some ax) (by intro env'; first | exact src_list (j := j) (sl := .ints xs) hA (iter_ne hg) | exact src_list (j := j) (sl := .oints xs) hA (iter_ne hg) | exact src_list (j := j) (sl := .frs xs) hA (iter_ne hg) | exact src_list (j := j) (sl := .ofrs xs) hA (iter_ne hg)) so s0 (n := xs.length) rfl (smallL_len h.1) (by intro i hi; exact map_getD hi) h.2 hR
      | exact lc_inv qOpt_of H hA O hc hnm hkind hx M _ rfl (Sx := fun i ρ h => h.IsListIter st'.heap.objs.size ax i ∧ atN ρ j = some ax) (by intro env'; first | exact src_list (j := j) (sl := .ints xs) hA (iter_ne hg) | exact src_list (j := j) (sl := .oints xs) hA (iter_ne hg) | exact src_list (j := j) (sl := .frs xs) hA (iter_ne hg) | exact src_list (j := j) (sl := .ofrs xs) hA (iter_ne hg)) so s0 (n := xs.length) rfl (smallL_len h.1) (by intro i hi; exact map_getD hi) h.2 hR
  · -- a range
    rename_i n
    try dsimp only at h
    split at h <;> first | exact h.elim | skip
    cases d with
    | rng h0 h1 hr nr =>
      obtain ⟨hs, hz⟩ := small_of h0 h1
      refine wpAny_pyIter_range hr hs ?_
      rw [hz]
      obtain ⟨k, rfl⟩ := Int.eq_ofNat_of_zero_le h0
      refine lc_inv qAll_of H hA O hc hnm hkind hx M _ rfl (fun env' => src_rng (n := k) hA) (fun hS => soft_iter hS rfl (by intro e; simp at e)) ?_ (show k = (rangeL (k : Int)).length by simp [rangeL]) (by omega) (fun i hi => by simp [rangeL]) h hR
      have : IsRangeIter (st'.heap.push { cls := .type "range_iterator", data := .fields #[rawInt 0, rawInt (k : Int), rawInt 1] }) st'.heap.objs.size 0 (k : Int) 1 := Heap.get?_push_size _ rfl
      simpa using this
end
section
variable {prog : Program} {w : World} {b : Heap} {env : Env} {A : Around} {ρ ρ' ρ₁ ρ₂ : List Addr} {s s' s₂ : St} {st st' st₁ st₂ : Shared} {Cf : Cfg} {B : Bun} {lv : Nat} {scope : Scope} {cl : List (Str × Addr)} {C D : Addr}
theorem CEnd.take {l : SL} {loc : List (Str × SV)} {led : List SO} (c : CEnd prog w b env ρ st C D loc ρ₁ l.den led st₁) (sD : st.heap.get? D = none) (bD : b.get? D = none) :
    Mid prog w b env ρ st (ρ₁ ++ [D]) ⟨loc, led ++ [.list l]⟩ st₁ ∧ Den st₁.heap (ρ₁ ++ [D]) (.own led.length) (.ref D) := by
  obtain ⟨ys, e, ds⟩ := c.lst
  obtain ⟨m, hn, hh⟩ := c.mid.rel.frame
  have sd := soft_lst e
  refine ⟨Mid.adopt (tk := st₁.toks) (o := .list l) c.mid sD c.hD.1 c.hD.2 bD hn hh hn (fun _ _ _ _ e => e) sd sd fun x => .list (n := ys.length) e (ds.more sd), den_new c.mid.rel.led⟩
theorem isZero_eq {n : Int} (h : isZero n = true) : n = 0 := by
  unfold isZero at h
  cases n with
  | ofNat n => rw [Nat.eq_of_beq_eq_true h]; rfl
  | negSucc n => cases h
theorem isFun_eq {k : ScopeKind} (h : isFun k = true) : k = .function := by cases k <;> first | rfl | cases h
theorem comp_all {elt : Expr} {gens : List Comprehension} {pos : Pos} {K : KV} {use : Option (Value → Sem Unit)} {Q : Value → Shared → Prop} (H : BunOk prog w b lv B) (O : EnvOk env) (hA : AOk lv A) (R : Rel prog w b env ρ s st.heap)
    (h : compW Cf B env.scope.names elt gens scope s K) (hQ : ∀ loc, Fin prog w b env ρ st loc K (compPost (model prog w) A F0 use Q)) :
    wpAny (model prog w) A (comprehension (.ListComp elt gens scope pos) scope env (firstIterPos gens pos) (newList []) (firstAsync gens) (firstIter gens env) use) Q F0 st := by
  unfold compW at h
  cases gens with
  | nil => exact h.elim
  | cons g r =>
    cases r with
    | cons _ _ => exact h.elim
    | nil =>
      obtain ⟨t, iter, ifs, a⟩ := g
      cases t <;> first | exact h.elim | skip
      rename_i x px
      dsimp only at h
      split at h <;> first | exact h.elim | skip
      rename_i hx
      split at h <;> first | exact h.elim | skip
      rename_i hc
      split at h <;> first | exact h.elim | skip
      rename_i hnm
      split at h <;> first | exact h.elim | skip
      rename_i hk
      split at h <;> first | exact h.elim | skip
      rename_i ha
      split at h <;> first | exact h.elim | skip
      rename_i hset
      obtain rfl := isZero_eq ha
      have hk := isFun_eq hk
      obtain ⟨f1, f2, f3⟩ := compSc_facts hc
      have hx' : get (relab env.scope.names scope.names) x = some .local := by
        unfold isLocal at hx
        rw [relab_get]
        cases q : get scope.names x with
        | none => rw [q] at hx; cases hx
        | some k => rw [q] at hx; cases k <;> first | rfl | cases hx
      refine wpAny_comprehension_free (gs := []) rfl (isSet_folded hset) (closure_ok fun p hp hf => ?_) hk (fun y hy hl => ?_) ?_
      · exact Option.isSome_iff_exists.mp (O.cells p.1 (by rw [kindOf_get]; exact f3 p hp hf))
      · rw [← get_lookup, f2 y hy, hl]
      · refine H.evk O hA R h fun v st₁ ρ₁ sv s₁ m₁ d₁ k₁ => ?_
        exact lcOver_ok (iter := iter) (px := px) (pos := pos) H hA O hc hnm hk hx' m₁ d₁ k₁ (hQ s₁.loc)
theorem comp_ok (H : BunOk prog w b lv B) : CompOk prog w b lv Cf B := fun {env A ρ s st elt gens scope pos K} O hA R h => by
  rw [eval_ListComp]
  refine comp_all H O hA R h fun loc C D ρ₁ l led st₁ c sC bC sD bD CD hk => ?_
  obtain ⟨m, hn⟩ := c.ns
  obtain ⟨M, d⟩ := c.take sD bD
  refine ⟨m, hn, fun h' hs => ?_⟩
  have ap : Apart env (ρ₁ ++ [D]) C := ⟨fun hm => by
    rcases List.mem_append.mp hm with hm | hm
    · exact c.hC.1 hm
    · exact CD (List.mem_singleton.mp hm), c.hC.2⟩
  have M' : Mid prog w b env ρ st (ρ₁ ++ [D]) ⟨loc, led ++ [.list l]⟩ { st₁ with heap := h', toks := st₁.toks } := M.iter ap sC bC (fun a o n e => (hs.2 a n).trans e) (soft_ns hn)
  refine ⟨_, _, _, M', ?_, hk⟩
  cases d with
  | own e => exact .own e
theorem compA_ok {n : Nat} (H : BunOk prog w b lv (bun Cf n)) : CompAOk prog w b lv Cf (bun Cf (n + 1)) := fun {env A ρ s st y py pos v K} O hA R hv h => by
  replace h : evW Cf (bun Cf n) env.scope.names v s fun u s' => storeW env.scope.names y u s' fun s'' => K .next s'' := h
  unfold evW at h
  cases v <;> first | exact h.elim | (cases hv; done) | skip
  rename_i elt gens scope p
  replace h : compW Cf (bun Cf n) env.scope.names elt gens scope s fun u s' => storeW env.scope.names y u s' fun s'' => K .next s'' := h
  have sw : swapsWith (.ListComp elt gens scope p) (some (.Name y py)) pos.line env = pure (env.blockKind == .function && env.kindOf y == some .local && py.line == p.line && !(scope.names.any fun (n, k) => n == y && (k == .local || k == .cell))) := rfl
  cases q : (env.blockKind == .function && env.kindOf y == some .local && py.line == p.line && !(scope.names.any fun (n, k) => n == y && (k == .local || k == .cell))) with
  | false =>
    rw [q] at sw
    refine wpAny_Assign_Name (wpAny_mono (comp_ok H O hA R h) (fun v st₁ hv => ?_) fun _ _ x => x) sw
    obtain ⟨ρ₁, sv, s₁, m₁, d₁, k₁⟩ := hv
    exact wpAny_mono (store_ok (K := fun s'' => K .next s'') O m₁.rel d₁ k₁) (fun r _ x => (flow_next (r := r) x).trans m₁) fun _ _ x => x
  | true =>
    rw [q] at sw
    rw [exec_Assign_Name_used _ _ _ _ sw]
    refine wpAny_bind (wpAny_standAt (wpAny_bind ?_))
    show wpAny _ A (do let _ ← comprehension (.ListComp elt gens scope p) scope env _ (newList []) (firstAsync gens) (firstIter gens env) (some (assign (.Name y py) env))) _ _ st
    refine wpAny_bind (wpAny_mono (comp_all (use := some (assign (.Name y py) env)) (Q := fun _ s' => PostF prog w b env ρ st K .next s') H O hA R h fun loc C D ρ₁ l led st₁ c sC bC sD bD CD hk => ?_) (fun _ s' hq => wpAny_pure (wpAny_pure hq)) fun _ _ e => e)
    obtain ⟨m, hn⟩ := c.ns
    obtain ⟨M, d⟩ := c.take sD bD
    have nρ : C ∉ ρ₁ ++ [D] := fun hm => by
      rcases List.mem_append.mp hm with hm | hm
      · exact c.hC.1 hm
      · exact CD (List.mem_singleton.mp hm)
    have hk : storeW env.scope.names y (.own led.length) ⟨loc, led ++ [.list l]⟩ fun s'' => K .next s'' := hk
    show wpAny _ A (assign (.Name y py) env (.ref D)) _ _ _
    refine assign_Name (wpAny_mono (store_ok O M.rel d hk) (fun r st₂ hr => ?_) fun _ _ x => x)
    obtain ⟨ρ₂, s₂, N, k₂⟩ := hr
    obtain ⟨oC, es, ep, eC, rC⟩ := id hn
    have hn₂ : st₂.heap.Ns C m := ns_keep hn fun o e => N.ext.keep C o e c.hC.2 nρ
    refine ⟨m, hn₂, fun h' hs => ?_⟩
    exact ⟨ρ₂, .next, s₂, (M.trans N).iter (tk := st₂.toks) ⟨N.ext.off eC nρ, c.hC.2⟩ sC bC (fun a o n e => (hs.2 a n).trans e) (soft_ns hn₂), .next, k₂⟩
end
section
variable {prog : Program} {w : World} {b : Heap} {Cf : Cfg} {lv : Nat}
theorem bun_both (HB : ∀ v xs, Cf.bl v xs → ∃ a vs, v = .ref a ∧ b.IsList a (List.toArray vs) ∧ IntsAre vs xs) (S : Sta prog w b) (G : GlOk w Cf.gl) (HC : ∀ p ∈ Cf.call, SpecOk prog w b lv p.1 p.2) : ∀ n, BunOk prog w b lv (bun Cf n) ∧ CompAOk prog w b lv Cf (bun Cf n)
  | 0 => ⟨⟨fun _ _ _ h => h.elim, fun _ _ _ h => h.elim, fun _ _ _ h => h.elim⟩, fun _ _ _ _ h => h.elim⟩
  | n + 1 => by
    obtain ⟨H, Hc⟩ := bun_both HB S G HC n
    exact ⟨⟨fun O hA R h => ev_step HB S G HC H (comp_ok H) O hA R h, fun O hA R h => tst_step H O hA R h, fun O hA R h => ex_step S H Hc O hA R h⟩, compA_ok H⟩
theorem bun_ok (HB : ∀ v xs, Cf.bl v xs → ∃ a vs, v = .ref a ∧ b.IsList a (List.toArray vs) ∧ IntsAre vs xs) (S : Sta prog w b) (G : GlOk w Cf.gl) (HC : ∀ p ∈ Cf.call, SpecOk prog w b lv p.1 p.2) (n : Nat) : BunOk prog w b lv (bun Cf n) := (bun_both HB S G HC n).1
end
theorem anyStr_mem {x : Str} : ∀ {l : List Str}, anyStr l x = false → x ∉ l
  | [], _, h => by cases h
  | y :: r, h, hm => by
    unfold anyStr at h
    cases q : strEq y x with
    | true => rw [q] at h; cases h
    | false =>
      rw [q] at h
      rcases List.mem_cons.mp hm with e | hm
      · exact strEq_ne q e.symm
      · exact anyStr_mem h hm
theorem apart_cons {x : Str} {r : List Str} (h : apartS (x :: r) = true) : x ∉ r ∧ apartS r = true := by
  unfold apartS at h
  cases q : anyStr r x with
  | true => rw [q] at h; cases h
  | false => rw [q] at h; exact ⟨anyStr_mem q, h⟩
theorem zip_lookup {α : Type} : ∀ {ps : List Str} {vs : List α} (i : Nat) (h : i < ps.length) (h' : i < vs.length), apartS ps = true → (ps.zip vs).lookup ps[i] = some vs[i]
  | p :: ps, v :: vs, 0, _, _, _ => by simp
  | p :: ps, v :: vs, i + 1, h, h', ha => by
    obtain ⟨h1, h2⟩ := apart_cons ha
    have : (ps[i]'(Nat.lt_of_succ_lt_succ h) == p) = false := by
      have : ps[i]'(Nat.lt_of_succ_lt_succ h) ≠ p := fun e => h1 (e ▸ List.getElem_mem _)
      simpa using this
    show ((p, v) :: ps.zip vs).lookup (ps[i]'(Nat.lt_of_succ_lt_succ h)) = some (vs[i]'(Nat.lt_of_succ_lt_succ h'))
    rw [List.lookup_cons, this]
    exact zip_lookup i _ _ h2
theorem zip_binds {ps : List Str} {vs : List Value} (ha : apartS ps = true) (hl : vs.length = ps.length) : ps.filterMap (fun n => ((ps.zip vs).lookup n).map (n, ·)) = ps.zip vs := by
  have key : ∀ (k : Nat), k ≤ ps.length → (ps.drop k).filterMap (fun n => ((ps.zip vs).lookup n).map (n, ·)) = (ps.zip vs).drop k := by
    intro k hk
    induction hd : ps.length - k generalizing k with
    | zero =>
      have : k = ps.length := by omega
      subst this
      rw [List.drop_length, List.drop_of_length_le (by rw [List.length_zip]; omega)]
      rfl
    | succ n ih =>
      have hk' : k < ps.length := by omega
      rw [List.drop_eq_getElem_cons hk', List.filterMap_cons, zip_lookup k hk' (by omega) ha]
      have hz : k < (ps.zip vs).length := by rw [List.length_zip]; omega
      rw [List.drop_eq_getElem_cons hz, List.getElem_zip]
      simp only [Option.map_some]
      rw [ih (k + 1) (by omega) (by omega)]
  exact key 0 (Nat.zero_le _)
theorem zip_bound {ps : List Str} {vs : List Value} (hl : vs.length = ps.length) {n : Str} (hn : n ∈ ps) (ha : apartS ps = true) : ((ps.zip vs).lookup n).isNone = false := by
  obtain ⟨i, hi, rfl⟩ := List.mem_iff_getElem.mp hn
  rw [zip_lookup i hi (by omega) ha]; rfl
theorem bind_plain {fd : FuncData} {as : List Arg} {kd : List (Option Expr)} {df : List Expr} {vs : List Value} (hp : fd.params = ⟨[], as, none, [], kd, none, df⟩) (hd : fd.defaults = .none) (ha : apartS (as.map (·.arg)) = true) (hl : vs.length = (as.map (·.arg)).length) :
    bindArgs fd ⟨vs, []⟩ = pure ((as.map (·.arg)).zip vs) := by
  generalize hps : as.map (·.arg) = ps at *
  have hm : (ps.take ps.length).filter (fun n => ((ps.zip vs).lookup n).isNone) = [] := by
    rw [List.take_length, List.filter_eq_nil_iff]
    intro n hn
    rw [zip_bound hl hn ha]; decide
  have hg : ¬ (vs.length > ps.length) := by omega
  unfold bindArgs
  simp only [hp, hd, hps, List.map_nil, List.nil_append, List.append_nil]
  rw [show seqItems? Value.none = pure none from rfl]
  simp only [pure_bind, Option.getD_none, List.length_nil, Nat.zero_sub, List.drop_nil, Nat.sub_zero, hm, decide_eq_false hg, Bool.false_and, Bool.false_eq_true, if_false, List.isEmpty_nil, Bool.not_true, List.zip_nil_right, List.forIn_nil]
  rw [zip_binds ha hl]
theorem bindL_off {kindOf : Str → Option NameKind} {x : Str} : ∀ {ps : List Str} {us : List Value} {m : Str → Option Value}, x ∉ ps → bindL kindOf (ps.zip us) m x = m x
  | [], _, _, _ => by rw [List.zip_nil_left]; rfl
  | _ :: _, [], _, _ => by rw [List.zip_nil_right]; rfl
  | p :: ps, u :: us, m, h => by
    show bindL kindOf (ps.zip us) _ x = m x
    rw [bindL_off fun hm => h (List.mem_cons_of_mem _ hm)]
    have ne : x ≠ p := fun e => h (e ▸ List.mem_cons_self)
    split
    · exact if_neg ne
    · rfl
theorem bindC_off {kindOf : Str → Option NameKind} {x : Str} : ∀ {ps : List Str} {us : List Value} {m : Str → Option Value}, x ∉ ps → bindC kindOf (ps.zip us) m x = m x
  | [], _, _, _ => by rw [List.zip_nil_left]; rfl
  | _ :: _, [], _, _ => by rw [List.zip_nil_right]; rfl
  | p :: ps, u :: us, m, h => by
    show bindC kindOf (ps.zip us) _ x = m x
    rw [bindC_off fun hm => h (List.mem_cons_of_mem _ hm)]
    have ne : x ≠ p := fun e => h (e ▸ List.mem_cons_self)
    split
    · rfl
    · exact if_neg ne
theorem bindL_zip {kindOf : Str → Option NameKind} {x : Str} {v : Value} (hk : kindOf x = some .local) : ∀ {ps : List Str} {us : List Value} {m : Str → Option Value}, apartS ps = true → (x, v) ∈ ps.zip us → bindL kindOf (ps.zip us) m x = some v
  | [], _, _, _, h => by rw [List.zip_nil_left] at h; cases h
  | _ :: _, [], _, _, h => by rw [List.zip_nil_right] at h; cases h
  | p :: ps, u :: us, m, ha, h => by
    obtain ⟨h1, h2⟩ := apart_cons ha
    show bindL kindOf (ps.zip us) _ x = some v
    rcases List.mem_cons.mp h with e | h
    · cases e
      rw [bindL_off h1, if_pos hk]
      exact if_pos rfl
    · exact bindL_zip hk h2 h
theorem bindC_zip {kindOf : Str → Option NameKind} {x : Str} {v : Value} (hk : kindOf x ≠ some .local) : ∀ {ps : List Str} {us : List Value} {m : Str → Option Value}, apartS ps = true → (x, v) ∈ ps.zip us → bindC kindOf (ps.zip us) m x = some v
  | [], _, _, _, h => by rw [List.zip_nil_left] at h; cases h
  | _ :: _, [], _, _, h => by rw [List.zip_nil_right] at h; cases h
  | p :: ps, u :: us, m, ha, h => by
    obtain ⟨h1, h2⟩ := apart_cons ha
    show bindC kindOf (ps.zip us) _ x = some v
    rcases List.mem_cons.mp h with e | h
    · cases e
      rw [bindC_off h1, if_neg hk]
      exact if_pos rfl
    · exact bindC_zip hk h2 h
noncomputable def Keyed (l : List (Str × Addr)) : Prop := ∀ x c, (x, c) ∈ l → l.lookup x = some c
theorem cellsFrom_keyed : ∀ {names : List (Str × NameKind)} {n : Nat} {acc : List (Str × Addr)}, apartS (names.map (·.1)) = true → Keyed acc → (∀ x ∈ names.map (·.1), acc.lookup x = none) → Keyed (cellsFrom n names acc)
  | [], _, _, _, k, _ => k
  | (p, kd) :: r, n, acc, ha, k, hn => by
    obtain ⟨h1, h2⟩ := apart_cons ha
    unfold cellsFrom
    split
    · refine cellsFrom_keyed h2 (fun x c hm => ?_) fun x hx => ?_
      · rw [List.lookup_cons]
        rcases List.mem_cons.mp hm with e | hm
        · cases e; simp
        · have l := k x c hm
          cases q : (x == p) with
          | true =>
            have q : x = p := by simpa using q
            subst q
            rw [hn x List.mem_cons_self] at l; cases l
          | false => exact l
      · rw [List.lookup_cons]
        have : (x == p) = false := by
          have : x ≠ p := fun e => h1 (e ▸ hx)
          simpa using this
        rw [this]
        exact hn x (List.mem_cons_of_mem _ hx)
    · exact cellsFrom_keyed h2 k fun x hx => hn x (List.mem_cons_of_mem _ hx)
theorem cellsFrom_acc {q : Str × Addr} : ∀ {names : List (Str × NameKind)} {n : Nat} {acc : List (Str × Addr)}, q ∈ acc → q ∈ cellsFrom n names acc
  | [], _, _, h => h
  | (p, kd) :: r, n, acc, h => by
    unfold cellsFrom
    split
    · exact cellsFrom_acc (List.mem_cons_of_mem _ h)
    · exact cellsFrom_acc h
theorem cellsFrom_has {x : Str} : ∀ {names : List (Str × NameKind)} {n : Nat} {acc : List (Str × Addr)}, (x, NameKind.cell) ∈ names → ((cellsFrom n names acc).lookup x).isSome = true
  | (p, kd) :: r, n, acc, h => by
    unfold cellsFrom
    rcases List.mem_cons.mp h with e | h
    · cases e
      rw [if_pos (by decide)]
      exact mem_lookup (cellsFrom_acc List.mem_cons_self)
    · split
      · exact cellsFrom_has h
      · exact cellsFrom_has h
noncomputable def fnParams : Stmt → List Str
  | .FunctionDef _ a _ _ _ _ _ _ _ _ => a.args.map (·.arg)
  | _ => []
noncomputable def isNil {α : Type} : List α → Bool
  | [] => true
  | _ => false
noncomputable def isNo {α : Type} : Option α → Bool
  | .none => true
  | _ => false
noncomputable def isLC (sc : Sc) (x : Str) : Bool := match get sc x with
  | .some .local => true
  | .some .cell => true
  | _ => false
noncomputable def fnGood : Stmt → Bool
  | .FunctionDef _ a _ _ _ _ sc _ _ _ => isNil a.posonlyargs && isNo a.vararg && isNil a.kwonlyargs && isNo a.kwarg && apartS (a.args.map (·.arg)) && okNames sc.names && isFun sc.kind && !sc.isCoroutine && !sc.isGenerator && apartS (sc.names.map (·.1)) && (a.args.map (·.arg)).all (isLC sc.names)
  | _ => false
structure FnRec (st : Stmt) (q : Str) (cd : Value) (fd : FuncData) : Prop where
  body : fd.body = .stmts (fnBody st)
  names : fd.scope.names = fnSc st
  qual : fd.qualname = q
  code : fd.code = cd
  clos : fd.closure = []
  glob : fd.globals = mainGlobals
  blt : fd.builtins = builtinsNs
  kind : fd.scope.kind = .function
  co : fd.scope.isCoroutine = false
  gen : fd.scope.isGenerator = false
  ok : okNames fd.scope.names = true
  apart : apartS (fd.scope.names.map (·.1)) = true
  par : ∃ as kd df, fd.params = ⟨[], as, none, [], kd, none, df⟩ ∧ as.map (·.arg) = fnParams st
  parA : apartS (fnParams st) = true
  parK : ∀ x ∈ fnParams st, isLC fd.scope.names x = true
theorem isNil_eq {α : Type} {l : List α} (h : isNil l = true) : l = [] := by cases l <;> first | rfl | cases h
theorem isNo_eq {α : Type} {l : Option α} (h : isNo l = true) : l = none := by cases l <;> first | rfl | cases h
theorem fn_open {st : Stmt} {q : Str} {dV doc pm cd ct : Value} {an : Option Addr} (h : fnGood st = true) : ∃ fd, fnOb st q dV .none doc pm an cd ct 0 = ⟨.type "function", none, .func fd, #[]⟩ ∧ fd.defaults = dV ∧ FnRec st q cd fd := by
  cases st <;> first | (cases h; done) | skip
  rename_i n a body dl rt tp sc tsc bd pos
  unfold fnGood at h
  simp only [Bool.and_eq_true, Bool.not_eq_true'] at h
  obtain ⟨⟨⟨⟨⟨⟨⟨⟨⟨⟨h1, h2⟩, h3⟩, h4⟩, h5⟩, h6⟩, h7⟩, h8⟩, h9⟩, h10⟩, h11⟩ := h
  obtain ⟨po, as, va, ko, kd, kw, df⟩ := a
  obtain rfl := isNil_eq h1
  obtain rfl := isNo_eq h2
  obtain rfl := isNil_eq h3
  obtain rfl := isNo_eq h4
  exact ⟨⟨n, q, ⟨[], as, none, [], kd, none, df⟩, .stmts body, sc, 3, [], dV, .none, doc, pm, an, cd, ct, 0⟩, rfl, rfl, ⟨rfl, rfl, rfl, rfl, rfl, rfl, rfl, isFun_eq h7, h8, h9, h6, h10, ⟨as, kd, df, rfl, rfl⟩, h5, fun x hx => List.all_eq_true.mp h11 x hx⟩⟩
section
variable {prog : Program} {w : World} {b : Heap} {A : Around} {ρ : List Addr} {Cf : Cfg} {lv : Nat}
theorem get_zip {h : Heap} {x : Str} {sv : SV} : ∀ {ps : List Str} {vs : List SV} {us : List Value}, Dens h ρ vs us → get (ps.zip vs) x = some sv → ∃ v, Den h ρ sv v ∧ (x, v) ∈ ps.zip us
  | [], _, _, _, e => by rw [List.zip_nil_left] at e; cases e
  | _ :: _, _, _, .nil, e => by rw [List.zip_nil_right] at e; cases e
  | p :: ps, s :: vs, u :: us, .cons d ds, e => by
    have e' : get ((p, s) :: ps.zip vs) x = match strEq p x with | true => some s | false => get (ps.zip vs) x := rfl
    rw [show (p :: ps).zip (s :: vs) = (p, s) :: ps.zip vs from rfl, e'] at e
    cases q : strEq p x with
    | true =>
      rw [q] at e; cases e
      exact ⟨u, d, by rw [strEq_iff.mp q]; exact List.mem_cons_self⟩
    | false =>
      rw [q] at e
      obtain ⟨v, dv, hm⟩ := get_zip ds e
      exact ⟨v, dv, List.mem_cons_of_mem _ hm⟩
/-- room for a call, whoever calls -/
noncomputable def AOk0 (lv : Nat) (A : Around) : Prop := A.handled = none ∧ A.depth + lv + 110 < recursionLimit ∧ A.units + 8 * lv + 200 < cLine ∧ ∃ l, A.frames = some l
theorem AOk.weak (h : AOk lv A) : AOk0 lv A := let ⟨a1, a2, a3, e, l, a4, _⟩ := h; ⟨a1, a2, a3, e :: l, a4⟩
theorem AOk0.deeper {env : Env} (h : AOk0 (lv + 1) A) (h1 : env.scope.isGenerator = false) (h2 : env.scope.isCoroutine = false) (h3 : env.builtins = builtinsNs) (h4 : env.globals = mainGlobals) : AOk lv (A.deeper env) := by
  obtain ⟨a1, a2, a3, l, a4⟩ := h
  refine ⟨a1, ?_, ?_, env, l, ?_, h1, h2, h3, h4⟩
  · show A.depth + 1 + lv + 110 < _; omega
  · show A.units + 3 + 8 * lv + 200 < _; omega
  · show A.frames.map _ = _; rw [a4]; rfl
theorem zip_mem {α β : Type} {x : α} {y : β} : ∀ {l : List α} {m : List β}, (x, y) ∈ l.zip m → x ∈ l
  | [], _, h => by rw [List.zip_nil_left] at h; cases h
  | _ :: _, [], h => by rw [List.zip_nil_right] at h; cases h
  | _ :: l, _ :: m, h => by
    rcases List.mem_cons.mp h with e | h
    · cases e; exact List.mem_cons_self
    · exact List.mem_cons_of_mem _ (zip_mem h)
theorem lc_cases {sc : Sc} {x : Str} (h : isLC sc x = true) : sc.lookup x = some .local ∨ sc.lookup x = some .cell := by
  unfold isLC at h
  rw [← get_lookup]
  split at h
  · exact .inl ‹_›
  · exact .inr ‹_›
  · cases h
theorem pair_inj {l : List (Str × Addr)} (k : Keyed l) (ap : l.Pairwise fun x y => x.2 ≠ y.2) {x y : Str} {c : Addr} (hx : l.lookup x = some c) (hy : l.lookup y = some c) : x = y := by
  replace hx := lookup_mem hx
  replace hy := lookup_mem hy
  clear k
  induction l with
  | nil => cases hx
  | cons p r ih =>
    obtain ⟨h1, h2⟩ := List.pairwise_cons.mp ap
    rcases List.mem_cons.mp hx with ex | hx
    · rcases List.mem_cons.mp hy with ey | hy
      · rw [← ex] at ey; cases ey; rfl
      · have := h1 _ hy
        rw [← ex] at this
        exact absurd rfl this
    · rcases List.mem_cons.mp hy with ey | hy
      · have := h1 _ hx
        rw [← ey] at this
        exact absurd rfl this
      · exact ih h2 hx hy
/-- the state in a callee's frame, as it begins -/
theorem run_start {fd : FuncData} {sx : Stmt} {q : Str} {cd : Value} {a : Addr} {st st₁ : Shared} {led : List SO} {vs : List SV} {us : List Value} (F : FnRec sx q cd fd) (D : Led prog w b st.heap ρ led) (stays : ∀ a o, b.get? a = some o → st.heap.get? a = some o) (ds : Dens st.heap ρ vs us)
    (X : InCallC st (callEnvC fd st.heap.objs.size a).locals (bindL (callEnvC fd st.heap.objs.size a).kindOf ((fnParams sx).zip us) fun _ => none) (callEnvC fd st.heap.objs.size a).cells (bindC (callEnvC fd st.heap.objs.size a).kindOf ((fnParams sx).zip us) fun _ => none) st₁) :
    EnvOk (callEnvC fd st.heap.objs.size a) ∧ Rel prog w b (callEnvC fd st.heap.objs.size a) ρ ⟨(fnParams sx).zip vs, led⟩ st₁.heap ∧ ∀ x ∈ xs (callEnvC fd st.heap.objs.size a), st.heap.get? x = none := by
  have keep := X.toInCall.keep
  have keyed : Keyed (callEnvC fd st.heap.objs.size a).cells := cellsFrom_keyed F.apart (fun _ _ hm => nomatch hm) fun _ _ => rfl
  have none_of : ∀ x, st.heap.objs.size ≤ x → st.heap.get? x = none := fun x hx => by
    cases e : st.heap.get? x with
    | none => rfl
    | some o' => exact absurd (Heap.lt_size e) (Nat.not_lt.mpr hx)
  have fresh : ∀ x ∈ xs (callEnvC fd st.heap.objs.size a), st.heap.get? x = none := fun x hx => by
    refine none_of x ?_
    rcases List.mem_cons.mp hx with e | hx
    · rw [e]; exact X.toInCall.fresh
    · obtain ⟨⟨n, c⟩, hm, e⟩ := List.mem_map.mp hx
      have := X.above n c hm
      have h2 := X.toInCall.fresh
      rw [← e]
      exact Nat.le_trans h2 (Nat.le_of_lt this)
  have bnone : ∀ x, st.heap.get? x = none → b.get? x = none := fun x hx => by
    cases e : b.get? x with
    | none => rfl
    | some o => rw [stays x o e] at hx; cases hx
  have x0 : Ext [] ρ st.heap ρ st₁.heap := .grow keep
  have s0 : Soft st.heap [] := fun _ m => nomatch m
  refine ⟨⟨F.kind, F.glob, F.blt, F.ok, fun x hx => ?_⟩, ⟨D.grow keep, fun a o e => keep a o (stays a o e), ⟨_, X.toInCall.ns, fun x sv e => ?_⟩, ?_, fun c hc => ?_, fun x hx hm => ?_, fun x y c hx hy => pair_inj keyed X.apart hx hy⟩, fresh⟩
  · rw [kindOf_get] at hx
    exact cellsFrom_has (get_mem hx)
  · obtain ⟨v, dv, hm⟩ := get_zip ds e
    have dv' := dv.ext x0 s0
    have hp := zip_mem hm
    have lk : (callEnvC fd st.heap.objs.size a).kindOf x = fd.scope.names.lookup x := rfl
    rcases lc_cases (F.parK x hp) with k | k
    · exact ⟨v, dv', .inl ⟨lk.trans k, bindL_zip (lk.trans k) F.parA hm⟩⟩
    · have hk := lk.trans k
      obtain ⟨c, hc⟩ := Option.isSome_iff_exists.mp (cellsFrom_has (n := st.heap.objs.size + 1) (acc := []) (lookup_mem k))
      have hc : (callEnvC fd st.heap.objs.size a).cells.lookup x = some c := hc
      refine ⟨v, dv', .inr ⟨.inl hk, c, hc, ?_⟩⟩
      have := X.cell x c hc
      rw [bindC_zip (by rw [hk]; decide) F.parA hm] at this
      exact this
  · exact bnone _ (fresh _ List.mem_cons_self)
  · obtain ⟨⟨n, c'⟩, hm, e⟩ := List.mem_map.mp hc
    refine ⟨bnone c (fresh c (List.mem_cons_of_mem _ hc)), ?_⟩
    have e : c' = c := e
    subst e
    exact ⟨_, X.cell n c' (keyed n c' hm)⟩
  · obtain ⟨o, e⟩ := D.live x hm
    rw [fresh x hx] at e; cases e
noncomputable def kOf (K : SV → List SO → Prop) : KF := fun f s => match f with
  | .ret v => K v s.led
  | .next => K .none s.led
  | _ => False
theorem call_bind {s : Shared} {R : Result → Shared → Prop} {a : Addr} {o : Obj} {fd : FuncData} {body : List Stmt} {args : Args} {binds : List (Str × Value)}
    (hroom : A.depth < recursionLimit) (ho : s.heap.get? a = some o) (hdata : o.data = .func fd) (hlim : s.heap.NoLimit) (hcd : s.heap.CodeRec fd.code fd.qualname)
    (hbody : fd.body = .stmts body) (hbind : BindsTo s fd args binds) (hclo : fd.closure = [])
    (hkind : ∀ x ∈ binds, fd.scope.names.lookup x.1 = some .local ∨ (fd.scope.names.lookup x.1 = some .cell ∧ ((cellsFrom (s.heap.objs.size + 1) fd.scope.names []).lookup x.1).isSome = true))
    (h : ∀ s₁, InCallC s (callEnvC fd s.heap.objs.size a).locals (bindL (callEnvC fd s.heap.objs.size a).kindOf binds fun _ => none) (callEnvC fd s.heap.objs.size a).cells
        (bindC (callEnvC fd s.heap.objs.size a).kindOf binds fun _ => none) s₁ →
      wpAny (model prog w) (A.deeper (callEnvC fd s.heap.objs.size a)) (execs body (callEnvC fd s.heap.objs.size a)) (fun f s' => R (.ok (.ret (match f with | .ret v => v | _ => .none))) s') F0 s₁)
    (hco : fd.scope.isCoroutine = false) (hgen : fd.scope.isGenerator = false) (hk : fd.scope.kind = .function) :
    codeAny (model prog w) A (.call (.ref a) args) R s := by
  refine codeAny_call_function hroom ho hdata hco hgen hbody hcd (hbind _ _ _ _ ?_)
  rw [hclo]
  refine wpAny_newFunctionEnv_cells hk hkind fun env he s' x => ?_
  subst he
  exact ⟨hlim.keeps x.toInCall.keep, codeAny_func (wpAny_mono (h s' x) (fun _ _ y => y) fun _ _ y => y.elim)⟩
theorem run_core (S : Sta prog w b) {a : Addr} {sx : Stmt} {q : Str} {cd : Value} {fd : FuncData}
    (hl : (heapK w.params).lookup a = some ⟨.type "function", none, .func fd, #[]⟩) (F : FnRec sx q cd fd) (hcd : codeIn (heapK w.params) cd q = true) {args : Args} {us : List Value} {vs : List SV} {led : List SO} {st : Shared} {K : SV → List SO → Prop} {R : Result → Shared → Prop}
    (hA : AOk0 (lv + 1) A) (D : Led prog w b st.heap ρ led) (stays : ∀ a o, b.get? a = some o → st.heap.get? a = some o) (ds : Dens st.heap ρ vs us) (hbind : BindsTo st fd args ((fnParams sx).zip us))
    (hb : ∀ env A st₁, EnvOk env → env.scope.names = fnSc sx → env.code = cd → AOk lv A → Rel prog w b env ρ ⟨(fnParams sx).zip vs, led⟩ st₁.heap → wpAny (model prog w) A (execs (fnBody sx) env) (PostF prog w b env ρ st₁ (kOf K)) F0 st₁)
    (hR : ∀ v st' ρ' sv led', st'.os = st.os → st'.gens = st.gens → Ext [] ρ st.heap ρ' st'.heap → Led prog w b st'.heap ρ' led' → Den st'.heap ρ' sv v → K sv led' → R (.ok (.ret v)) st') :
    codeAny (model prog w) A (.call (.ref a) args) R st := by
  have KI := S.K.keeps stays
  refine call_bind (fd := fd) (body := fnBody sx) (binds := (fnParams sx).zip us) (by have := hA.2.1; omega) (KI _ _ hl) rfl (S.nolimit.keeps stays) (by rw [F.code, F.qual]; exact codeRec_of KI hcd) F.body hbind F.clos (fun x hx => ?_) (fun st₁ X => ?_) F.co F.gen F.kind
  · rcases lc_cases (F.parK x.1 (zip_mem hx)) with k | k
    · exact .inl k
    · exact .inr ⟨k, cellsFrom_has (lookup_mem k)⟩
  · obtain ⟨O, Rl, fresh⟩ := run_start (a := a) F D stays ds X
    have hA' : AOk lv (A.deeper (callEnvC fd st.heap.objs.size a)) := hA.deeper F.gen F.co F.blt F.glob
    refine wpAny_mono (hb _ _ st₁ O F.names F.code hA' Rl) (fun f st₂ hf => ?_) fun _ _ x => x.elim
    obtain ⟨ρ', fl, s', M, d, k⟩ := hf
    have keep := X.toInCall.keep
    have x : Ext [] ρ st.heap ρ' st₂.heap := ⟨M.ext.pre, fun c o e _ nr => M.ext.keep c o (keep c o e) (fun m => by rw [fresh c m] at e; cases e) nr, fun c m n => (by
      cases e : st.heap.get? c with
      | none => rfl
      | some o => (have := M.ext.fresh c m n; rw [keep c o e] at this; cases this)), fun c o e _ => M.ext.live c o (keep c o e) fun m => by rw [fresh c m] at e; cases e⟩
    obtain ⟨h', tk, e1⟩ := X.toInCall.same
    have os : st₂.os = st.os := by rw [M.os, e1]
    have gens : st₂.gens = st.gens := by rw [M.gens, e1]
    cases d with
    | next => exact hR _ _ ρ' _ s'.led os gens x M.rel.led .none k
    | brk => exact k.elim
    | cont => exact k.elim
    | ret dv => exact hR _ _ ρ' _ s'.led os gens x M.rel.led dv k
theorem run_code (S : Sta prog w b) (HB : ∀ v xs, Cf.bl v xs → ∃ a vs, v = .ref a ∧ b.IsList a (List.toArray vs) ∧ IntsAre vs xs) (G : GlOk w Cf.gl) (HC : ∀ p ∈ Cf.call, SpecOk prog w b lv p.1 p.2) {a : Addr} {sx : Stmt} {q : Str} {cd : Value} {fd : FuncData}
    (hl : (heapK w.params).lookup a = some ⟨.type "function", none, .func fd, #[]⟩) (F : FnRec sx q cd fd) (hcd : codeIn (heapK w.params) cd q = true) {args : Args} {us : List Value} {vs : List SV} {led : List SO} {st : Shared} {K : SV → List SO → Prop} {R : Result → Shared → Prop}
    (hA : AOk (lv + 1) A) (D : Led prog w b st.heap ρ led) (stays : ∀ a o, b.get? a = some o → st.heap.get? a = some o) (ds : Dens st.heap ρ vs us) (hbind : BindsTo st fd args ((fnParams sx).zip us))
    (hb : bodyW Cf (fnSc sx) (fnBody sx) ⟨(fnParams sx).zip vs, led⟩ (kOf K))
    (hR : ∀ v st' ρ' sv led', st'.os = st.os → st'.gens = st.gens → Ext [] ρ st.heap ρ' st'.heap → Led prog w b st'.heap ρ' led' → Den st'.heap ρ' sv v → K sv led' → R (.ok (.ret v)) st') :
    codeAny (model prog w) A (.call (.ref a) args) R st := by
  refine run_core S hl F hcd hA.weak D stays ds hbind (fun env A st₁ O en _ hA' Rl => ?_) hR
  rw [← en] at hb
  exact exs_ok (bun_ok HB S G HC 30) O hA' Rl hb
theorem run_ok (S : Sta prog w b) (HB : ∀ v xs, Cf.bl v xs → ∃ a vs, v = .ref a ∧ b.IsList a (List.toArray vs) ∧ IntsAre vs xs) (G : GlOk w Cf.gl) (HC : ∀ p ∈ Cf.call, SpecOk prog w b lv p.1 p.2) {a : Addr} {sx : Stmt} {q : Str} {doc pm cd ct : Value} {an : Option Addr}
    (hl : (heapK w.params).lookup a = some (fnOb sx q .none .none doc pm an cd ct 0)) (hg : fnGood sx = true) (hcd : codeIn (heapK w.params) cd q = true) {sp : Spec}
    (h : ∀ args led K, sp args led K → args.length = (fnParams sx).length ∧ ∃ inv, bodyW { Cf with inv := inv } (fnSc sx) (fnBody sx) ⟨(fnParams sx).zip args, led⟩ (kOf K)) : SpecOk prog w b (lv + 1) a sp := by
  obtain ⟨fd, ef, hd, F⟩ := fn_open (q := q) (dV := .none) (doc := doc) (pm := pm) (cd := cd) (ct := ct) (an := an) hg
  rw [ef] at hl
  refine ⟨?_, fun A ρ led st vs us K hA D stays ds hsp => ?_⟩
  · unfold keepIn; dsimp only; rw [hl]
  obtain ⟨hlen, inv, hb⟩ := h vs led K hsp
  obtain ⟨as, kd, df, hp, hpar⟩ := F.par
  refine wpAny_call (run_code (Cf := { Cf with inv := inv }) S HB G HC hl F hcd hA D stays ds (.of_eq ?_) hb fun v st' ρ' sv led' h1 h2 h3 h4 h5 h6 => ⟨ρ', sv, led', h1, h2, h3, h4, h5, h6⟩)
  rw [← hpar]
  exact bind_plain hp hd (hpar ▸ F.parA) (by rw [hpar, ← hlen]; exact ds.length)
end
noncomputable def glB (K : Frag) (p : Str × SV) : Bool := match p.2 with
  | .glo a => (match nsIn K mainGlobals p.1 with
    | some (some (.ref c)) => Nat.beq c a
    | _ => false)
  | .tup [.int i, .int j] => (match nsIn K mainGlobals p.1 with
    | some (some (.ref c)) => (match K.lookup c with
      | some ⟨.type t, _, .seq xs _, _⟩ => t == "tuple" && (match xs.toList with
        | [.int i' _, .int j' _] => decide (i' = i) && decide (j' = j)
        | _ => false)
      | _ => false)
    | _ => false)
  | .prim v => (match nsIn K mainGlobals p.1 with
    | some none => (match bootBuiltins p.1, v with
      | some (.builtin x), .builtin y => x == y && (p.1 != "__name__")
      | some (.type x), .type y => x == y && (p.1 != "__name__")
      | _, _ => false)
    | _ => false)
  | _ => false
theorem glB_ok {w : World} {p : Str × SV} (h : glB (heapK w.params) p = true) : GlE w p.1 p.2 := by
  obtain ⟨x, sv⟩ := p
  unfold glB at h
  dsimp only at h
  split at h
  · split at h
    · rename_i c e
      exact .inl ⟨_, e, Nat.eq_of_beq_eq_true h ▸ .glo c⟩
    · cases h
  · split at h
    · rename_i c e
      split at h
      · rename_i d xs n sl el
        rw [Bool.and_eq_true] at h
        obtain ⟨h1, h2⟩ := h
        split at h2
        · rename_i i' t j' u exs
          rw [Bool.and_eq_true] at h2
          obtain ⟨h3, h4⟩ := h2
          have h1 := beq_iff_eq.mp h1
          have h3 := of_decide_eq_true h3
          have h4 := of_decide_eq_true h4
          subst h1 h3 h4
          refine .inl ⟨_, e, .pair (t := t) (u := u) (n := n) (d := d) (sl := sl) ?_⟩
          rw [el]
          congr 3
          rw [show xs = xs.toList.toArray by simp, exs]
        · cases h2
      · cases h
    · cases h
  · split at h
    · rename_i e
      split at h
      · rename_i x' y eb
        rw [Bool.and_eq_true] at h
        have h1 := beq_iff_eq.mp h.1
        subst h1
        exact .inr ⟨_, e, eb, by simpa using h.2, rfl⟩
      · rename_i x' y eb
        rw [Bool.and_eq_true] at h
        have h1 := beq_iff_eq.mp h.1
        subst h1
        exact .inr ⟨_, e, eb, by simpa using h.2, rfl⟩
      · cases h
    · cases h
  · cases h
theorem glOk_of {w : World} {gl : List (Str × SV)} (h : gl.all (glB (heapK w.params)) = true) : GlOk w gl := fun x sv e => glB_ok (p := (x, sv)) (List.all_eq_true.mp h (x, sv) (get_mem e))
theorem glob_ok (w : World) : GlOk w glob := glOk_of (by kernel_rfl)
noncomputable def rn (n d : Int) : Int := n / (Int.gcd n d : Int)
noncomputable def rd (n d : Int) : Int := d / (Int.gcd n d : Int)

theorem gcd_pos' {n d : Int} (h : 0 < d) : 0 < Int.gcd n d := Int.gcd_pos_of_ne_zero_right n (by omega)
theorem rd_le {n d : Int} (h : 0 < d) : rd n d ≤ d := Int.ediv_le_self _ (by omega)
theorem rd_pos {n d : Int} (h : 0 < d) : 0 < rd n d :=
  Int.ediv_pos_of_pos_of_dvd h (by omega) (Int.gcd_dvd_right n d)
theorem rn_mul (n d : Int) : rn n d * (Int.gcd n d : Int) = n := Int.ediv_mul_cancel (Int.gcd_dvd_left n d)
theorem rd_mul (n d : Int) : rd n d * (Int.gcd n d : Int) = d := Int.ediv_mul_cancel (Int.gcd_dvd_right n d)
theorem red_scale {k : Int} (hk : 0 < k) (n d : Int) : rn (k * n) (k * d) = rn n d ∧ rd (k * n) (k * d) = rd n d := by
  have e : ((Int.gcd (k * n) (k * d) : Nat) : Int) = k * (Int.gcd n d : Int) := by
    rw [Int.gcd_mul_left, Int.natCast_mul, Int.natAbs_of_nonneg (by omega)]
  unfold rn rd
  rw [e]
  exact ⟨Int.mul_ediv_mul_of_pos _ _ hk, Int.mul_ediv_mul_of_pos _ _ hk⟩
theorem red_eq {n d n' d' : Int} (hd : 0 < d) (hd' : 0 < d') (h : n * d' = n' * d) : rn n d = rn n' d' ∧ rd n d = rd n' d' := by
  have h1 := red_scale hd' n d
  have h2 := red_scale hd n' d'
  have e1 : d' * n = d * n' := by rw [Int.mul_comm d' n, h, Int.mul_comm]
  have e2 : d' * d = d * d' := Int.mul_comm _ _
  rw [e1, e2] at h1
  exact ⟨h1.1.symm.trans h2.1, h1.2.symm.trans h2.2⟩
theorem red_cross {n d : Int} : rn n d * d = n * rd n d := by
  have h1 := rn_mul n d
  have h2 := rd_mul n d
  calc rn n d * d = rn n d * (rd n d * (Int.gcd n d : Int)) := by rw [h2]
    _ = (rn n d * (Int.gcd n d : Int)) * rd n d := by
      rw [Int.mul_comm (rd n d), Int.mul_assoc]
    _ = n * rd n d := by rw [h1]
/-- the sum of two fractions in lowest terms -/
theorem red_add {a b c d : Int} (hb : 0 < b) (hd : 0 < d) :
    rn (rn a b * rd c d + rn c d * rd a b) (rd a b * rd c d) = rn (a * d + c * b) (b * d) ∧ rd (rn a b * rd c d + rn c d * rd a b) (rd a b * rd c d) = rd (a * d + c * b) (b * d) := by
  refine red_eq (Int.mul_pos (rd_pos hb) (rd_pos hd)) (Int.mul_pos hb hd) ?_
  have h1 : rn a b * b = a * rd a b := red_cross
  have h2 : rn c d * d = c * rd c d := red_cross
  generalize rn a b = x at *
  generalize rn c d = y at *
  generalize rd a b = u at *
  generalize rd c d = v at *
  have e1 : (x * v + y * u) * (b * d) = (x * b) * (v * d) + (y * d) * (u * b) := by
    grind
  have e2 : (a * d + c * b) * (u * v) = (a * u) * (v * d) + (c * v) * (u * b) := by
    grind
  rw [e1, e2, h1, h2]
theorem red_mulf {a b c d : Int} (hb : 0 < b) (hd : 0 < d) :
    rn (rn a b * rn c d) (rd a b * rd c d) = rn (a * c) (b * d) ∧ rd (rn a b * rn c d) (rd a b * rd c d) = rd (a * c) (b * d) := by
  refine red_eq (Int.mul_pos (rd_pos hb) (rd_pos hd)) (Int.mul_pos hb hd) ?_
  have h1 : rn a b * b = a * rd a b := red_cross
  have h2 : rn c d * d = c * rd c d := red_cross
  generalize rn a b = x at *
  generalize rn c d = y at *
  generalize rd a b = u at *
  generalize rd c d = v at *
  have e1 : (x * y) * (b * d) = (x * b) * (y * d) := by
    grind
  have e2 : (a * c) * (u * v) = (a * u) * (c * v) := by
    grind
  rw [e1, e2, h1, h2]
theorem fdiv_gcd (a n d : Int) : a.fdiv (Int.gcd n d : Int) = a / (Int.gcd n d : Int) := Int.fdiv_eq_ediv_of_nonneg _ (by omega)
theorem gcd_turn {x y : Int} {g : Nat} (h : Int.gcd x y = g) (hx : 0 ≤ x) (hy : 0 < y) : 0 ≤ y ∧ 0 ≤ x.fmod y ∧ Int.gcd y (x.fmod y) = g := by
  refine ⟨by omega, Int.fmod_nonneg hx (by omega), ?_⟩
  rw [Int.fmod_eq_emod_of_nonneg _ (by omega), Int.emod_def, Int.gcd_sub_mul_left_right, Int.gcd_comm, h]
theorem gcd_less {x y : Int} (hy : 0 < y) : (x.fmod y).toNat < y.toNat := by
  have h2 : x.fmod y < y := Int.fmod_lt_of_pos _ hy
  omega
theorem gcd_end {x y : Int} {g : Nat} (h : Int.gcd x y = g) (hx : 0 ≤ x) (h0 : 0 ≤ y) (hy : ¬ 0 < y) : x = (g : Int) := by
  have : y = 0 := by omega
  subst this
  rw [← h, Int.gcd_zero_right]
  omega
theorem make_fin {a b g : Int} (e : g = (Int.gcd (if a < 0 then -a else a) b : Int)) : a.fdiv g = rn a b ∧ b.fdiv g = rd a b := by
  have h : Int.gcd (if a < 0 then -a else a) b = Int.gcd a b := by
    split
    · exact Int.neg_gcd
    · rfl
  rw [h] at e
  subst e
  exact ⟨fdiv_gcd _ _ _, fdiv_gcd _ _ _⟩
set_option maxRecDepth 100000
noncomputable def sGcd : Spec := fun args led K => match args with
  | [a, b] => match a with
    | .int i => match b with
      | .int j => (0 ≤ i ∧ 0 ≤ j) ∧ K (.int (Int.gcd i j)) led
      | _ => False
    | _ => False
  | _ => False
noncomputable def noBl : Value → List Int → Prop := fun _ _ => False
noncomputable abbrev c0 (call : List (Nat × Spec)) (inv : List (Nat × Inv)) : Cfg := ⟨glob, call, inv, noBl⟩
noncomputable def xa : Str := Str.ofString "a"
noncomputable def xb : Str := Str.ofString "b"
noncomputable def iGcd (i j : Int) : Inv := .wh (Int × Int) (fun s p => ⟨[(xa, .int p.1), (xb, .int p.2)], s.led⟩) (fun _ p => 0 ≤ p.1 ∧ 0 ≤ p.2 ∧ Int.gcd p.1 p.2 = Int.gcd i j) (fun p => p.2.toNat)
theorem vGcd (i j : Int) (led : List SO) (K : SV → List SO → Prop) (h0 : 0 ≤ i) (h1 : 0 ≤ j) (hk : K (.int (Int.gcd i j)) led) : bodyW (c0 [] [(59, iGcd i j)]) (fnSc (fnAt 15)) (fnBody (fnAt 15)) ⟨(fnParams (fnAt 15)).zip [.int i, .int j], led⟩ (kOf K) := by
  refine Eq.mp (?_ : ((∃ a : Int × Int, (0 ≤ a.1 ∧ 0 ≤ a.2 ∧ Int.gcd a.1 a.2 = Int.gcd i j) ∧ led = led ∧ some (SV.int i) = some (SV.int a.1) ∧ some (SV.int j) = some (SV.int a.2) ∧ True) ∧
    ∀ a : Int × Int, (0 ≤ a.1 ∧ 0 ≤ a.2 ∧ Int.gcd a.1 a.2 = Int.gcd i j) → brn (decide (0 < a.2)) (a.2 ≠ 0 ∧ ∃ a' : Int × Int, (0 ≤ a'.1 ∧ 0 ≤ a'.2 ∧ Int.gcd a'.1 a'.2 = Int.gcd i j) ∧ a'.2.toNat < a.2.toNat ∧
      led = led ∧ some (SV.int a.2) = some (SV.int a'.1) ∧ some (SV.int (a.1.fmod a.2)) = some (SV.int a'.2) ∧ True) (K (SV.int a.1) led)) = _) ?_
  · kernel_rfl
  · refine ⟨⟨(i, j), ⟨h0, h1, rfl⟩, rfl, rfl, rfl, trivial⟩, fun a ⟨p1, p2, p3⟩ => ?_⟩
    cases q : decide (0 < a.2) with
    | true =>
      have q := of_decide_eq_true q
      exact ⟨by omega, (a.2, a.1.fmod a.2), gcd_turn p3 p1 q, gcd_less q, rfl, rfl, rfl, trivial⟩
    | false =>
      show K (SV.int a.1) led
      rw [gcd_end p3 p1 p2 (of_decide_eq_false q)]; exact hk
section
variable {prog : Program} {w : World} {b : Heap} {lv : Nat}
theorem gcd_ok (S : Sta prog w b) : SpecOk prog w b (lv + 1) 111 sGcd :=
  run_ok (Cf := c0 [] []) S (fun _ _ h => h.elim) (glob_ok w) (fun _ h => nomatch h) (sx := fnAt 15) (q := Str.ofString "gcd") (doc := .none) (pm := .str (Str.ofString "vectorcove.rational") 299) (an := none) (cd := .ref 110) (ct := .none) (by kernel_rfl) (by kernel_rfl) (by kernel_rfl)
    fun args led K h => by
      unfold sGcd at h
      repeat (split at h <;> first | exact h.elim | skip)
      exact ⟨by kernel_rfl, _, vGcd _ _ led K h.1.1 h.1.2 h.2⟩
end
set_option maxRecDepth 100000
noncomputable def on1 (args : List SV) (f : SV → Prop) : Prop := match args with
  | [a] => f a
  | _ => False
noncomputable def on2 (args : List SV) (f : SV → SV → Prop) : Prop := match args with
  | [a, b] => f a b
  | _ => False
noncomputable def asInt (v : SV) (f : Int → Prop) : Prop := match v with
  | .int n => f n
  | _ => False
noncomputable def asFr (v : SV) (f : Int → Int → Prop) : Prop := match v with
  | .tup l => (match l with
    | [a, b] => (match a with
      | .int n => (match b with
        | .int d => f n d
        | _ => False)
      | _ => False)
    | _ => False)
  | _ => False
noncomputable def asOFr (v : SV) (g : Prop) (f : Int → Int → Prop) : Prop := match v with
  | .none => g
  | v => asFr v f
theorem on1_of {args : List SV} {f : SV → Prop} (h : on1 args f) : ∃ a, args = [a] ∧ f a := by
  unfold on1 at h
  split at h
  · exact ⟨_, rfl, h⟩
  · exact h.elim
theorem on2_of {args : List SV} {f : SV → SV → Prop} (h : on2 args f) : ∃ a b, args = [a, b] ∧ f a b := by
  unfold on2 at h
  split at h
  · exact ⟨_, _, rfl, h⟩
  · exact h.elim
theorem asInt_of {v : SV} {f : Int → Prop} (h : asInt v f) : ∃ n, v = .int n ∧ f n := by
  cases v <;> first | exact h.elim | exact ⟨_, rfl, h⟩
theorem asFr_of {v : SV} {f : Int → Int → Prop} (h : asFr v f) : ∃ n d, v = .tup [.int n, .int d] ∧ f n d := by
  unfold asFr at h
  repeat (split at h <;> first | exact h.elim | skip)
  exact ⟨_, _, rfl, h⟩
theorem asOFr_of {v : SV} {g : Prop} {f : Int → Int → Prop} (h : asOFr v g f) : (v = .none ∧ g) ∨ ∃ n d, v = .tup [.int n, .int d] ∧ f n d := by
  unfold asOFr at h
  split at h
  · exact .inl ⟨rfl, h⟩
  · exact .inr (asFr_of h)
theorem brn_d {p : Prop} [Decidable p] {P Q : Prop} (h1 : p → P) (h2 : ¬ p → Q) : brn (decide p) P Q := by
  by_cases h : p
  · rw [decide_eq_true h]; exact h1 h
  · rw [decide_eq_false h]; exact h2 h
theorem brn_t {p : Prop} [Decidable p] {P Q : Prop} (hp : p) (h : P) : brn (decide p) P Q := by rw [decide_eq_true hp]; exact h
theorem brn_f {p : Prop} [Decidable p] {P Q : Prop} (hp : ¬ p) (h : Q) : brn (decide p) P Q := by rw [decide_eq_false hp]; exact h
noncomputable def sMake : Spec := fun args led K => on2 args fun a b => asInt a fun n => asInt b fun d => 0 < d ∧ K (.tup [.int (rn n d), .int (rd n d)]) led
noncomputable def sFrom : Spec := fun args led K => on1 args fun a => asInt a fun n => K (.tup [.int n, .int 1]) led
noncomputable def sIsna : Spec := fun args led K => on1 args fun a => asOFr a (K (.bool true) led) fun _ d => 0 < d ∧ K (.bool false) led
noncomputable def sIsnan : Spec := fun args led K => on1 args fun a => asFr a fun _ d => 0 < d ∧ K (.bool false) led
noncomputable def sIsfin : Spec := fun args led K => on1 args fun a => asFr a fun _ d => 0 < d ∧ K (.bool true) led
noncomputable def sNeg : Spec := fun args led K => on1 args fun a => asFr a fun n d => K (.tup [.int (0 - n), .int d]) led
noncomputable def sAdd : Spec := fun args led K => on2 args fun x y => asFr x fun a b => asFr y fun c d => (0 < b ∧ 0 < d ∧ IntMulOk a d ∧ IntMulOk c b ∧ IntMulOk b d) ∧ K (.tup [.int (rn (a * d + c * b) (b * d)), .int (rd (a * d + c * b) (b * d))]) led
noncomputable def sSub : Spec := fun args led K => on2 args fun x y => asFr x fun a b => asFr y fun c d => (0 < b ∧ 0 < d ∧ IntMulOk a d ∧ IntMulOk (0 - c) b ∧ IntMulOk b d) ∧ K (.tup [.int (rn (a * d + (0 - c) * b) (b * d)), .int (rd (a * d + (0 - c) * b) (b * d))]) led
noncomputable def sMul : Spec := fun args led K => on2 args fun x y => asFr x fun a b => asFr y fun c d => (0 < b ∧ 0 < d ∧ IntMulOk a c ∧ IntMulOk b d) ∧ K (.tup [.int (rn (a * c) (b * d)), .int (rd (a * c) (b * d))]) led
noncomputable def sDiv : Spec := fun args led K => on2 args fun x y => asFr x fun a b => asFr y fun c d => (0 < b ∧ 0 < d ∧ 0 < c ∧ IntMulOk a d ∧ IntMulOk b c) ∧ K (.tup [.int (rn (a * d) (b * c)), .int (rd (a * d) (b * c))]) led
noncomputable def sFloor : Spec := fun args led K => on1 args fun a => asFr a fun n d => 0 < d ∧ K (.tup [.int (n.fdiv d), .int 1]) led
section
variable {prog : Program} {w : World} {b : Heap} {lv : Nat}
theorem AOk.down {A : Around} {n m : Nat} (h : AOk m A) (l : n ≤ m) : AOk n A := by
  obtain ⟨a1, a2, a3, r⟩ := h
  exact ⟨a1, by omega, by omega, r⟩
theorem SpecOk.up {n m : Nat} {a : Addr} {sp : Spec} (h : SpecOk prog w b n a sp) (l : n ≤ m) : SpecOk prog w b m a sp :=
  ⟨h.1, fun A ρ led st vs us K hA => h.2 A ρ led st vs us K (hA.down l)⟩
theorem fn_ok {call : List (Nat × Spec)} (S : Sta prog w b) (HC : ∀ p ∈ call, SpecOk prog w b lv p.1 p.2) {a k c : Nat} {q : Str} {m : Value} (hl : (heapK w.params).lookup a = some (fnOb (fnAt k) q .none .none .none m none (.ref c) .none 0)) (hg : fnGood (fnAt k) = true)
    (hc : codeIn (heapK w.params) (.ref c) q = true) {sp : Spec} (h : ∀ args led K, sp args led K → args.length = (fnParams (fnAt k)).length ∧ ∃ inv, bodyW (c0 call inv) (fnSc (fnAt k)) (fnBody (fnAt k)) ⟨(fnParams (fnAt k)).zip args, led⟩ (kOf K)) : SpecOk prog w b (lv + 1) a sp :=
  run_ok (Cf := c0 call []) S (fun _ _ h => h.elim) (glob_ok w) HC hl hg hc h
theorem hc0 : ∀ p ∈ ([] : List (Nat × Spec)), SpecOk prog w b lv p.1 p.2 := fun _ h => nomatch h
theorem hc1 {a : Nat} {sp : Spec} {r : List (Nat × Spec)} (x : SpecOk prog w b lv a sp) (y : ∀ p ∈ r, SpecOk prog w b lv p.1 p.2) : ∀ p ∈ (a, sp) :: r, SpecOk prog w b lv p.1 p.2 := List.forall_mem_cons.mpr ⟨x, y⟩
end
noncomputable abbrev mRat : Value := .str (Str.ofString "vectorcove.rational") 299
set_option maxRecDepth 100000
theorem vMake (n d : Int) (led : List SO) (K : SV → List SO → Prop) : (brn (decide (d = 0)) (brn (decide (n = 0)) (K (SV.tup [SV.int 0, SV.int 0]) led) (brn (decide (0 < n)) (K (SV.tup [SV.int 1, SV.int 0]) led) (K (SV.tup [SV.int (-1), SV.int 0]) led))) (brn (decide (d < 0)) (((0 ≤ if 0 - n < 0 then -(0 - n) else 0 - n) ∧ 0 ≤ 0 - d) ∧ (↑((if 0 - n < 0 then -(0 - n) else 0 - n).gcd (0 - d)) : Int) ≠ 0 ∧ (↑((if 0 - n < 0 then -(0 - n) else 0 - n).gcd (0 - d)) : Int) ≠ 0 ∧ K (SV.tup [SV.int ((0 - n).fdiv (↑((if 0 - n < 0 then -(0 - n) else 0 - n).gcd (0 - d)) : Int)), SV.int ((0 - d).fdiv (↑((if 0 - n < 0 then -(0 - n) else 0 - n).gcd (0 - d)) : Int))]) led) (((0 ≤ if n < 0 then -n else n) ∧ 0 ≤ d) ∧ (↑((if n < 0 then -n else n).gcd d) : Int) ≠ 0 ∧ (↑((if n < 0 then -n else n).gcd d) : Int) ≠ 0 ∧ K (SV.tup [SV.int (n.fdiv (↑((if n < 0 then -n else n).gcd d) : Int)), SV.int (d.fdiv (↑((if n < 0 then -n else n).gcd d) : Int))]) led))) → bodyW (c0 [(111, sGcd)] []) (fnSc (fnAt 16)) (fnBody (fnAt 16)) ⟨(fnParams (fnAt 16)).zip [.int n, .int d], led⟩ (kOf K) := Eq.mp (by kernel_rfl)
theorem vFrom (n : Int) (led : List SO) (K : SV → List SO → Prop) : (K (SV.tup [SV.int n, SV.int 1]) led) → bodyW (c0 [] []) (fnSc (fnAt 17)) (fnBody (fnAt 17)) ⟨(fnParams (fnAt 17)).zip [.int n], led⟩ (kOf K) := Eq.mp (by kernel_rfl)
theorem vIsna0  (led : List SO) (K : SV → List SO → Prop) : (K (SV.bool !false) led) → bodyW (c0 [] []) (fnSc (fnAt 18)) (fnBody (fnAt 18)) ⟨(fnParams (fnAt 18)).zip [.none], led⟩ (kOf K) := Eq.mp (by kernel_rfl)
theorem vIsna (n d : Int) (led : List SO) (K : SV → List SO → Prop) : (brn (decide (n = 0)) (K (SV.bool (decide (d = 0))) led) (K (SV.bool (decide (n = 0))) led)) → bodyW (c0 [] []) (fnSc (fnAt 18)) (fnBody (fnAt 18)) ⟨(fnParams (fnAt 18)).zip [.tup [.int n, .int d]], led⟩ (kOf K) := Eq.mp (by kernel_rfl)
theorem vIsnan (n d : Int) (led : List SO) (K : SV → List SO → Prop) : (brn (decide (n = 0)) (K (SV.bool (decide (d = 0))) led) (K (SV.bool (decide (n = 0))) led)) → bodyW (c0 [] []) (fnSc (fnAt 19)) (fnBody (fnAt 19)) ⟨(fnParams (fnAt 19)).zip [.tup [.int n, .int d]], led⟩ (kOf K) := Eq.mp (by kernel_rfl)
theorem vIsfin (n d : Int) (led : List SO) (K : SV → List SO → Prop) : (K (SV.bool (decide (0 < d))) led) → bodyW (c0 [] []) (fnSc (fnAt 20)) (fnBody (fnAt 20)) ⟨(fnParams (fnAt 20)).zip [.tup [.int n, .int d]], led⟩ (kOf K) := Eq.mp (by kernel_rfl)
theorem vNeg (n d : Int) (led : List SO) (K : SV → List SO → Prop) : (K (SV.tup [SV.int (0 - n), SV.int d]) led) → bodyW (c0 [] []) (fnSc (fnAt 22)) (fnBody (fnAt 22)) ⟨(fnParams (fnAt 22)).zip [.tup [.int n, .int d]], led⟩ (kOf K) := Eq.mp (by kernel_rfl)
theorem vAdd (a b c d : Int) (led : List SO) (K : SV → List SO → Prop) : (0 < b ∧ 0 < d ∧ brn (decide (b = 0)) (brn (decide (d = 0)) (brn (decide (a = c)) (K (SV.tup [SV.int a, SV.int b]) led) (K (SV.tup [SV.int 0, SV.int 0]) led)) (brn (decide (b = 0)) (K (SV.tup [SV.int a, SV.int b]) led) (brn (decide (d = 0)) (K (SV.tup [SV.int c, SV.int d]) led) (IntMulOk a d ∧ IntMulOk c b ∧ IntMulOk b d ∧ 0 < b * d ∧ K (SV.tup [SV.int (rn (a * d + c * b) (b * d)), SV.int (rd (a * d + c * b) (b * d))]) led)))) (brn (decide (b = 0)) (K (SV.tup [SV.int a, SV.int b]) led) (brn (decide (d = 0)) (K (SV.tup [SV.int c, SV.int d]) led) (IntMulOk a d ∧ IntMulOk c b ∧ IntMulOk b d ∧ 0 < b * d ∧ K (SV.tup [SV.int (rn (a * d + c * b) (b * d)), SV.int (rd (a * d + c * b) (b * d))]) led)))) → bodyW (c0 [(132, sIsna), (118, sMake)] []) (fnSc (fnAt 23)) (fnBody (fnAt 23)) ⟨(fnParams (fnAt 23)).zip [.tup [.int a, .int b], .tup [.int c, .int d]], led⟩ (kOf K) := Eq.mp (by kernel_rfl)
theorem vSub (a b c d : Int) (led : List SO) (K : SV → List SO → Prop) : ((0 < b ∧ 0 < d ∧ IntMulOk a d ∧ IntMulOk (0 - c) b ∧ IntMulOk b d) ∧ K (SV.tup [SV.int (rn (a * d + (0 - c) * b) (b * d)), SV.int (rd (a * d + (0 - c) * b) (b * d))]) led) → bodyW (c0 [(160, sNeg), (167, sAdd)] []) (fnSc (fnAt 24)) (fnBody (fnAt 24)) ⟨(fnParams (fnAt 24)).zip [.tup [.int a, .int b], .tup [.int c, .int d]], led⟩ (kOf K) := Eq.mp (by kernel_rfl)
theorem vMul (a b c d : Int) (led : List SO) (K : SV → List SO → Prop) : (0 < b ∧ 0 < d ∧ IntMulOk a c ∧ IntMulOk b d ∧ 0 < b * d ∧ K (SV.tup [SV.int (rn (a * c) (b * d)), SV.int (rd (a * c) (b * d))]) led) → bodyW (c0 [(132, sIsna), (118, sMake)] []) (fnSc (fnAt 25)) (fnBody (fnAt 25)) ⟨(fnParams (fnAt 25)).zip [.tup [.int a, .int b], .tup [.int c, .int d]], led⟩ (kOf K) := Eq.mp (by kernel_rfl)
theorem vDiv (a b c d : Int) (led : List SO) (K : SV → List SO → Prop) : (0 < b ∧ 0 < d ∧ brn (decide (b = 0)) (brn (decide (d = 0)) (K (SV.tup [SV.int 0, SV.int 0]) led) (brn (decide (b = 0)) (brn (decide (c < 0)) False (K (SV.tup [SV.int a, SV.int b]) led)) (IntMulOk a d ∧ IntMulOk b c ∧ 0 < b * c ∧ K (SV.tup [SV.int (rn (a * d) (b * c)), SV.int (rd (a * d) (b * c))]) led))) (brn (decide (b = 0)) (brn (decide (c < 0)) False (K (SV.tup [SV.int a, SV.int b]) led)) (IntMulOk a d ∧ IntMulOk b c ∧ 0 < b * c ∧ K (SV.tup [SV.int (rn (a * d) (b * c)), SV.int (rd (a * d) (b * c))]) led))) → bodyW (c0 [(132, sIsna), (118, sMake)] []) (fnSc (fnAt 26)) (fnBody (fnAt 26)) ⟨(fnParams (fnAt 26)).zip [.tup [.int a, .int b], .tup [.int c, .int d]], led⟩ (kOf K) := Eq.mp (by kernel_rfl)
theorem vFloor (n d : Int) (led : List SO) (K : SV → List SO → Prop) : (0 < d ∧ d ≠ 0 ∧ K (SV.tup [SV.int (n.fdiv d), SV.int 1]) led) → bodyW (c0 [(146, sIsfin)] []) (fnSc (fnAt 27)) (fnBody (fnAt 27)) ⟨(fnParams (fnAt 27)).zip [.tup [.int n, .int d]], led⟩ (kOf K) := Eq.mp (by kernel_rfl)
section
variable {prog : Program} {w : World} {b : Heap}
theorem make_sp (S : Sta prog w b) : SpecOk prog w b 2 118 sMake :=
  fn_ok S (hc1 (gcd_ok S) hc0) (k := 16) (c := 117) (q := Str.ofString "make") (m := mRat) (by kernel_rfl) (by kernel_rfl) (by kernel_rfl) fun args led K h => by
    obtain ⟨x, y, rfl, h⟩ := on2_of h
    obtain ⟨n, rfl, h⟩ := asInt_of h
    obtain ⟨d, rfl, hd, h⟩ := asInt_of h
    refine ⟨by kernel_rfl, _, vMake n d led K (brn_f (by omega) (brn_f (by omega) ?_))⟩
    obtain ⟨e1, e2⟩ := make_fin (a := n) (b := d) rfl
    have := gcd_pos' (n := if n < 0 then -n else n) hd
    refine ⟨⟨by split <;> omega, by omega⟩, by omega, by omega, ?_⟩
    rw [e1, e2]; exact h
theorem from_sp (S : Sta prog w b) : SpecOk prog w b 1 125 sFrom :=
  fn_ok S (hc0) (k := 17) (c := 124) (q := Str.ofString "from_int") (m := mRat) (by kernel_rfl) (by kernel_rfl) (by kernel_rfl) fun args led K h => by
    obtain ⟨x, rfl, h⟩ := on1_of h
    obtain ⟨n, rfl, h⟩ := asInt_of h
    exact ⟨by kernel_rfl, _, vFrom n led K h⟩
theorem isna_sp (S : Sta prog w b) : SpecOk prog w b 1 132 sIsna :=
  fn_ok S (hc0) (k := 18) (c := 131) (q := Str.ofString "is_na") (m := mRat) (by kernel_rfl) (by kernel_rfl) (by kernel_rfl) fun args led K h => by
    obtain ⟨x, rfl, h⟩ := on1_of h
    obtain ⟨rfl, h⟩ | ⟨n, d, rfl, hd, h⟩ := asOFr_of h
    · exact ⟨by kernel_rfl, _, vIsna0 led K h⟩
    · refine ⟨by kernel_rfl, _, vIsna n d led K (brn_d (fun _ => ?_) fun e => ?_)⟩
      · rw [decide_eq_false (by omega)]; exact h
      · rw [decide_eq_false e]; exact h
theorem isnan_sp (S : Sta prog w b) : SpecOk prog w b 1 139 sIsnan :=
  fn_ok S (hc0) (k := 19) (c := 138) (q := Str.ofString "is_nan") (m := mRat) (by kernel_rfl) (by kernel_rfl) (by kernel_rfl) fun args led K h => by
    obtain ⟨x, rfl, h⟩ := on1_of h
    obtain ⟨n, d, rfl, hd, h⟩ := asFr_of h
    refine ⟨by kernel_rfl, _, vIsnan n d led K (brn_d (fun _ => ?_) fun e => ?_)⟩
    · rw [decide_eq_false (by omega)]; exact h
    · rw [decide_eq_false e]; exact h
theorem isfin_sp (S : Sta prog w b) : SpecOk prog w b 1 146 sIsfin :=
  fn_ok S (hc0) (k := 20) (c := 145) (q := Str.ofString "is_finite") (m := mRat) (by kernel_rfl) (by kernel_rfl) (by kernel_rfl) fun args led K h => by
    obtain ⟨x, rfl, h⟩ := on1_of h
    obtain ⟨n, d, rfl, hd, h⟩ := asFr_of h
    refine ⟨by kernel_rfl, _, vIsfin n d led K ?_⟩
    rw [decide_eq_true hd]; exact h
theorem neg_sp (S : Sta prog w b) : SpecOk prog w b 1 160 sNeg :=
  fn_ok S (hc0) (k := 22) (c := 159) (q := Str.ofString "neg") (m := mRat) (by kernel_rfl) (by kernel_rfl) (by kernel_rfl) fun args led K h => by
    obtain ⟨x, rfl, h⟩ := on1_of h
    obtain ⟨n, d, rfl, h⟩ := asFr_of h
    exact ⟨by kernel_rfl, _, vNeg n d led K h⟩
theorem add_sp (S : Sta prog w b) : SpecOk prog w b 3 167 sAdd :=
  fn_ok S (hc1 ((isna_sp S).up (by omega)) (hc1 (make_sp S) hc0)) (k := 23) (c := 166) (q := Str.ofString "add") (m := mRat) (by kernel_rfl) (by kernel_rfl) (by kernel_rfl) fun args led K h => by
    obtain ⟨x, y, rfl, h⟩ := on2_of h
    obtain ⟨a, b, rfl, h⟩ := asFr_of h
    obtain ⟨c, d, rfl, h⟩ := asFr_of h
    obtain ⟨⟨h1, h2, h3, h4, h5⟩, h⟩ := h
    have hp := Int.mul_pos h1 h2
    have z := brn_f (P := K (SV.tup [SV.int a, SV.int b]) led) (show ¬ b = 0 by omega) (brn_f (P := K (SV.tup [SV.int c, SV.int d]) led) (show ¬ d = 0 by omega) (show _ ∧ _ ∧ _ ∧ _ ∧ _ from ⟨h3, h4, h5, hp, h⟩))
    exact ⟨by kernel_rfl, _, vAdd a b c d led K ⟨h1, h2, brn_f (by omega) z⟩⟩
theorem sub_sp (S : Sta prog w b) : SpecOk prog w b 4 174 sSub :=
  fn_ok S (hc1 ((neg_sp S).up (by omega)) (hc1 (add_sp S) hc0)) (k := 24) (c := 173) (q := Str.ofString "sub") (m := mRat) (by kernel_rfl) (by kernel_rfl) (by kernel_rfl) fun args led K h => by
    obtain ⟨x, y, rfl, h⟩ := on2_of h
    obtain ⟨a, b, rfl, h⟩ := asFr_of h
    obtain ⟨c, d, rfl, h⟩ := asFr_of h
    exact ⟨by kernel_rfl, _, vSub a b c d led K h⟩
theorem mul_sp (S : Sta prog w b) : SpecOk prog w b 3 181 sMul :=
  fn_ok S (hc1 ((isna_sp S).up (by omega)) (hc1 (make_sp S) hc0)) (k := 25) (c := 180) (q := Str.ofString "mul") (m := mRat) (by kernel_rfl) (by kernel_rfl) (by kernel_rfl) fun args led K h => by
    obtain ⟨x, y, rfl, h⟩ := on2_of h
    obtain ⟨a, b, rfl, h⟩ := asFr_of h
    obtain ⟨c, d, rfl, h⟩ := asFr_of h
    obtain ⟨⟨h1, h2, h3, h4⟩, h⟩ := h
    exact ⟨by kernel_rfl, _, vMul a b c d led K ⟨h1, h2, h3, h4, Int.mul_pos h1 h2, h⟩⟩
theorem div_sp (S : Sta prog w b) : SpecOk prog w b 3 188 sDiv :=
  fn_ok S (hc1 ((isna_sp S).up (by omega)) (hc1 (make_sp S) hc0)) (k := 26) (c := 187) (q := Str.ofString "div") (m := mRat) (by kernel_rfl) (by kernel_rfl) (by kernel_rfl) fun args led K h => by
    obtain ⟨x, y, rfl, h⟩ := on2_of h
    obtain ⟨a, b, rfl, h⟩ := asFr_of h
    obtain ⟨c, d, rfl, h⟩ := asFr_of h
    obtain ⟨⟨h1, h2, h3, h4, h5⟩, h⟩ := h
    have z := brn_f (P := brn (decide (c < 0)) False (K (SV.tup [SV.int a, SV.int b]) led)) (show ¬ b = 0 by omega) (show _ ∧ _ ∧ _ ∧ _ from ⟨h4, h5, Int.mul_pos h1 h3, h⟩)
    exact ⟨by kernel_rfl, _, vDiv a b c d led K ⟨h1, h2, brn_f (by omega) z⟩⟩
theorem floor_sp (S : Sta prog w b) : SpecOk prog w b 2 195 sFloor :=
  fn_ok S (hc1 (isfin_sp S) hc0) (k := 27) (c := 194) (q := Str.ofString "floor") (m := mRat) (by kernel_rfl) (by kernel_rfl) (by kernel_rfl) fun args led K h => by
    obtain ⟨x, rfl, h⟩ := on1_of h
    obtain ⟨n, d, rfl, hd, h⟩ := asFr_of h
    exact ⟨by kernel_rfl, _, vFloor n d led K ⟨hd, by omega, h⟩⟩
end
section
variable {prog : Program} {w : World} {b : Heap} {A : Around} {ρ : List Addr} {Cf : Cfg} {lv : Nat}
theorem AOk.under {c : Code} (h : AOk (lv + 1) A) (hw : c.weight ≤ 1) (hu : c.cUnits ≤ 8) (he : c.envs = []) : AOk lv (A.under c) := by
  obtain ⟨a1, a2, a3, e, l, a4, r⟩ := h
  refine ⟨a1, ?_, ?_, e, l, ?_, r⟩
  · show A.depth + c.weight + lv + 110 < _; omega
  · show A.units + c.cUnits + 8 * lv + 200 < _; omega
  · show pushEnvs c.envs A.frames = _; rw [he, ← a4]; rfl
end
section
variable {prog : Program} {w : World} {b : Heap} {lv : Nat}
noncomputable def xk : Str := Str.ofString "kind"
noncomputable def xi : Str := Str.ofString "items"
noncomputable def xat : Str := Str.ofString "attrs"
noncomputable def vecD (k i a : SV) : SO := .idict [(xk, k), (xi, i), (xat, a), (Str.ofString "shared", .bool false), (Str.ofString "loose", .bool false)]
noncomputable def sVec : Spec := fun args led K => on2 args fun k i => K (.own (led.length + 1)) (led ++ [vecD k i .none, .inst 220 led.length])
noncomputable def initS : Stmt := stIn (fnAt 29) 0
end
section
variable {prog : Program} {w : World} {b : Heap} {lv : Nat}
theorem vInit (vk vi : Value) (K : SV → List SO → Prop) : K .none [vecD (.prim vk) (.prim vi) .none, .inst 220 0] → bodyW (c0 [] []) (fnSc initS) (fnBody initS) ⟨(fnParams initS).zip [.own 1, .prim vk, .prim vi, .none], [.idict [], .inst 220 0]⟩ (kOf K) := Eq.mp (by kernel_rfl)
end
theorem zip_snoc {ps : List Str} {vs : List Value} {d : Value} {p : Str} (hl : vs.length = ps.length) : (ps ++ [p]).zip (vs ++ [d]) = ps.zip vs ++ [(p, d)] := by
  rw [List.zip_append hl.symm]; rfl
theorem zip_front {ps : List Str} {vs : List Value} {p : Str} (hl : vs.length = ps.length) : (ps ++ [p]).zip vs = ps.zip vs := by
  have := List.zip_append (l₁ := ps) (r₁ := [p]) (l₂ := vs) (r₂ := ([] : List Value)) hl.symm
  rw [List.append_nil, List.zip_nil_right, List.append_nil] at this
  exact this
theorem lookup_off {α : Type} {p : Str} : ∀ {ps : List Str} {vs : List α}, p ∉ ps → (ps.zip vs).lookup p = none
  | [], _, _ => by rw [List.zip_nil_left]; rfl
  | _ :: _, [], _ => by rw [List.zip_nil_right]; rfl
  | q :: ps, v :: vs, h => by
    show ((q, v) :: ps.zip vs).lookup p = none
    rw [List.lookup_cons]
    have : (p == q) = false := by
      have : p ≠ q := fun e => h (e ▸ List.mem_cons_self)
      simpa using this
    rw [this]
    exact lookup_off fun hm => h (List.mem_cons_of_mem _ hm)
theorem apart_snoc {p : Str} : ∀ {ps : List Str}, apartS (ps ++ [p]) = true → apartS ps = true ∧ p ∉ ps
  | [], _ => ⟨rfl, fun h => nomatch h⟩
  | q :: ps, h => by
    obtain ⟨h1, h2⟩ := apart_cons (r := ps ++ [p]) h
    obtain ⟨h3, h4⟩ := apart_snoc h2
    refine ⟨?_, fun hm => ?_⟩
    · unfold apartS
      cases e : anyStr ps q with
      | false => exact h3
      | true =>
        exfalso
        have key : ∀ {l : List Str}, anyStr l q = true → q ∈ l := by
          intro l
          induction l with
          | nil => intro h; cases h
          | cons y r ih =>
            intro h
            unfold anyStr at h
            cases e : strEq y q with
            | true => rw [strEq_iff.mp e]; exact List.mem_cons_self
            | false => rw [e] at h; exact List.mem_cons_of_mem _ (ih h)
        exact h1 (List.mem_append_left _ (key e))
    · rcases List.mem_cons.mp hm with e | hm
      · exact h1 (e ▸ List.mem_append_right _ List.mem_cons_self)
      · exact h4 hm
theorem bind_def1 {s : Shared} {fd : FuncData} {as : List Arg} {kd : List (Option Expr)} {df : List Expr} {vs : List Value} {T : Addr} {o : Obj} {d : Value} {n : Nat} {ps : List Str} {p : Str} (hp : fd.params = ⟨[], as, none, [], kd, none, df⟩) (hps : as.map (·.arg) = ps ++ [p]) (hd : fd.defaults = .ref T)
    (ho : s.heap.get? T = some o) (hs : o.data = .seq #[d] n) (ha : apartS (ps ++ [p]) = true) (hl : vs.length = ps.length) : BindsTo s fd ⟨vs, []⟩ ((ps ++ [p]).zip (vs ++ [d])) := by
  intro M A E Q hq
  obtain ⟨ha', hn⟩ := apart_snoc ha
  have hm : ((ps ++ [p]).take ps.length).filter (fun n => (((ps ++ [p]).zip vs).lookup n).isNone) = [] := by
    rw [List.take_left, zip_front hl, List.filter_eq_nil_iff]
    intro x hx
    rw [zip_bound hl hx ha']; decide
  have hg : ¬ (vs.length > (ps ++ [p]).length) := by simp; omega
  have hlen : (ps ++ [p]).length - 1 = ps.length := by simp
  have hpos : (1 - (ps ++ [p]).length) = 0 := by simp
  have hlook : (((ps ++ [p]).zip vs).lookup p).isNone = true := by rw [zip_front hl, lookup_off hn]; rfl
  unfold bindArgs
  simp only [hp, hd, hps, List.map_nil, List.nil_append, List.append_nil, List.forIn_nil, pure_bind]
  refine wpAny_bind (wpAny_seqItems ho hs ?_)
  simp only [pure_bind, Option.getD_some, List.length_cons, List.length_nil, Nat.zero_add, hpos, List.drop_zero, hlen, hm, decide_eq_false hg, Bool.false_and, Bool.false_eq_true, if_false, List.isEmpty_nil, Bool.not_true, List.drop_left, List.zip_cons_cons, List.zip_nil_right, List.forIn_cons, List.forIn_nil, hlook, if_true]
  rw [zip_front hl, ← zip_snoc hl, zip_binds ha (by simp; omega)]
  exact wpAny_pure hq
section
variable {prog : Program} {w : World} {b : Heap} {lv : Nat}
theorem den_prim {h : Heap} {ρ : List Addr} {v u : Value} (d : Den h ρ (.prim v) u) : u = v := by cases d; rfl
theorem den_none {h : Heap} {ρ : List Addr} {u : Value} (d : Den h ρ .none u) : u = .none := by cases d; rfl
theorem den_bool {h : Heap} {ρ : List Addr} {c : Bool} {u : Value} (d : Den h ρ (.bool c) u) : u = .bool c := by cases d; rfl
theorem soft_obj {h : Heap} {z : Addr} {o : Obj} (e : h.get? z = some o) (h1 : ∀ xs n, o.data ≠ .seq xs n) (h2 : ∀ vs, o.data ≠ .fields vs) : Soft h [z] := fun a hm => by
  rw [List.mem_singleton.mp hm]
  exact ⟨o, e, fun xs n _ => h1 xs n, fun vs _ => h2 vs⟩
theorem vec_sp (S : Sta prog w b) : SpecOk prog w b (lv + 2) 220 sVec := by
  refine ⟨by kernel_rfl, fun A ρ led st vs us K hA D stays ds hsp => ?_⟩
  obtain ⟨k, i, rfl, hk⟩ := on2_of hsp
  cases ds with
  | cons dk ds =>
  cases ds with
  | cons di ds =>
  cases ds
  rename_i vk vi
  have KI := S.K.keeps stays
  obtain ⟨hh, g, dd, t, os⟩ := st
  have f0 : hh.get? hh.objs.size = none := get_size hh
  have f1 : hh.get? (hh.objs.size + 1) = none := by
    cases e : hh.get? (hh.objs.size + 1) with
    | none => rfl
    | some o => exact absurd (Heap.lt_size e) (Nat.not_lt.mpr (Nat.le_succ _))
  have keep : ∀ a o, hh.get? a = some o → ((hh.push emptyDict).push (instObj 220 hh.objs.size)).get? a = some o := fun a o e => Heap.get?_push_of_some _ (Heap.get?_push_of_some _ e)
  have g0 : ((hh.push emptyDict).push (instObj 220 hh.objs.size)).get? hh.objs.size = some emptyDict := Heap.get?_push_of_some _ (Heap.get?_push_size _ rfl)
  have g1 : ((hh.push emptyDict).push (instObj 220 hh.objs.size)).get? (hh.objs.size + 1) = some (instObj 220 hh.objs.size) := by
    have : ((hh.push emptyDict).push (instObj 220 hh.objs.size)).get? (hh.push emptyDict).objs.size = some (instObj 220 hh.objs.size) := Heap.get?_push_size _ rfl
    rwa [Heap.size_push] at this
  have bn : ∀ a, hh.get? a = none → b.get? a = none := fun a e => by
    cases e' : b.get? a with
    | none => rfl
    | some o => rw [stays a o e'] at e; cases e
  have D0 : Led prog w b ((hh.push emptyDict).push (instObj 220 hh.objs.size)) [hh.objs.size, hh.objs.size + 1] [.idict [], .inst 220 0] := by
    refine ⟨rfl, fun i j a ei ej => ?_, fun i a o ea eo => ?_, fun a hm => ?_⟩
    · match i, j, ei, ej with
      | 0, 0, _, _ => rfl
      | 1, 1, _, _ => rfl
      | 0, 1, ei, ej => cases ei; injection ej with ej; exact absurd ej (by show ¬ (hh.objs.size + 1 = hh.objs.size); omega)
      | 1, 0, ei, ej => cases ej; injection ei with ei; exact absurd ei (by show ¬ (hh.objs.size + 1 = hh.objs.size); omega)
    · match i, ea, eo with
      | 0, ea, eo => cases ea; cases eo; exact .idict (es := []) (n := 0) g0 .nil (by decide)
      | 1, ea, eo => cases ea; cases eo; exact .inst (dx := hh.objs.size) rfl g1
    · rcases List.mem_cons.mp hm with rfl | hm
      · exact bn _ f0
      · rw [List.mem_singleton.mp hm]; exact bn _ f1
  obtain ⟨fd, ef, hd, F⟩ := fn_open (st := initS) (q := Str.ofString "Vector.__init__") (dV := .ref 203) (doc := .none) (pm := .str (Str.ofString "vectorcove.values") 406) (cd := .ref 209) (ct := .none) (an := none) (by kernel_rfl)
  have hl : (heapK w.params).lookup 210 = some ⟨.type "function", none, .func fd, #[]⟩ := by rw [← ef]; kernel_rfl
  have hdf : (heapK w.params).lookup 203 = some ⟨.type "tuple", none, .seq #[.none] 0, #[]⟩ := by kernel_rfl
  obtain ⟨as, kd, df, hp, hpar⟩ := F.par
  have stays0 : ∀ a o, b.get? a = some o → ((hh.push emptyDict).push (instObj 220 hh.objs.size)).get? a = some o := fun a o e => keep a o (stays a o e)
  have hps : fnParams initS = [Str.ofString "self", xk, xi] ++ [xat] := by kernel_rfl
  refine wpAny_call (make_core (makes_of KI (by kernel_rfl)) (looks_findIn KI (show findIn (heapK w.params) (.ref 220) "__init__" = some (some (.ref 210)) by kernel_rfl)) (fun self => bind_fn KI self (by kernel_rfl)) (.inl rfl) ?_)
  refine run_code (Cf := c0 [] []) (lv := lv) (us := [.ref (hh.objs.size + 1), vk, vi, .none]) (vs := [.own 1, .prim vk, .prim vi, .none]) S (fun _ _ h => h.elim) (glob_ok w) hc0 hl F (by kernel_rfl)
    (hA.under (Nat.le_of_ble_eq_true (by kernel_rfl)) (Nat.le_of_ble_eq_true (by kernel_rfl)) rfl) D0 stays0 (.cons (.own rfl) (.cons (.prim vk) (.cons (.prim vi) (.cons .none .nil)))) ?_ (vInit vk vi (fun v l => v = .none ∧ l = [vecD (.prim vk) (.prim vi) .none, .inst 220 0]) ⟨rfl, rfl⟩) fun v st' ρ' sv led' h1 h2 x D' d ⟨e1, e2⟩ => ?_
  · rw [hps]
    exact bind_def1 (ps := [Str.ofString "self", xk, xi]) (vs := [.ref (hh.objs.size + 1), vk, vi]) hp (hpar.trans hps) hd (S.K.keeps stays0 _ _ hdf) rfl (hps ▸ F.parA) rfl
  · subst e1 e2
    cases d
    refine ⟨rfl, ?_⟩
    have k' : ∀ a o, hh.get? a = some o → st'.heap.get? a = some o := fun a o e => x.keep a o (keep a o e) (fun m => nomatch m) fun m => by
      rcases List.mem_cons.mp m with rfl | m
      · rw [f0] at e; cases e
      · rw [List.mem_singleton.mp m, f1] at e; cases e
    have a0 : atN ρ' 0 = some hh.objs.size := x.pre 0 _ rfl
    have a1 : atN ρ' 1 = some (hh.objs.size + 1) := x.pre 1 _ rfl
    have l1 := D'.lay 1 _ _ a1 rfl
    cases l1 with
    | inst ed hg =>
    rw [a0] at ed; cases ed
    have l0 := D'.lay 0 _ _ a0 rfl
    cases l0 with
    | idict hgd en hz =>
    have n0 : hh.objs.size ∉ ρ := fun m => by obtain ⟨o, e⟩ := D.live _ m; rw [f0] at e; cases e
    have n1 : hh.objs.size + 1 ∉ ρ := fun m => by obtain ⟨o, e⟩ := D.live _ m; rw [f1] at e; cases e
    have q0 : Soft st'.heap [hh.objs.size] := soft_obj hgd (fun _ _ e => by cases e) (fun _ e => by cases e)
    have q1 : Soft st'.heap [hh.objs.size + 1] := soft_obj hg (fun _ _ e => by cases e) (fun _ e => by cases e)
    have xg : Ext [] ρ hh ρ st'.heap := .grow k'
    have dk' := (dk.ext xg (fun _ m => nomatch m)).more q0
    have di' := (di.ext xg (fun _ m => nomatch m)).more q0
    have DA : Led prog w b st'.heap (ρ ++ [hh.objs.size]) (led ++ [vecD k i .none]) := (D.grow k').more q0 n0 (bn _ f0) (.idict hgd (by
      cases en with
      | cons hk1 d1 en =>
      cases en with
      | cons hk2 d2 en =>
      cases en with
      | cons hk3 d3 en =>
      cases en with
      | cons hk4 d4 en =>
      cases en with
      | cons hk5 d5 en =>
      cases en
      have e3 := den_none d3
      have e4 := den_bool d4
      have e5 := den_bool d5
      refine .cons hk1 (by rw [den_prim d1]; exact dk') (.cons hk2 (by rw [den_prim d2]; exact di') (.cons hk3 (by rw [e3]; exact .none) (.cons hk4 (by rw [e4]; exact .bool _) (.cons hk5 (by rw [e5]; exact .bool _) .nil))))) hz)
    have hat : atN (ρ ++ [hh.objs.size] ++ [hh.objs.size + 1]) led.length = some hh.objs.size := by
      rw [atN_append, if_pos (by simp [D.len]), atN_append, D.len, if_neg (Nat.lt_irrefl _), Nat.sub_self]; rfl
    have DB : Led prog w b st'.heap (ρ ++ [hh.objs.size] ++ [hh.objs.size + 1]) (led ++ [vecD k i .none] ++ [.inst 220 led.length]) := DA.more q1 (fun m => by
      rcases List.mem_append.mp m with m | m
      · exact n1 m
      · have := List.mem_singleton.mp m; exact absurd this (Nat.succ_ne_self _)) (bn _ f1) (.inst hat hg)
    rw [show led ++ [vecD k i .none, .inst 220 led.length] = led ++ [vecD k i .none] ++ [.inst 220 led.length] by simp] at hk
    refine ⟨_, _, _, h1, h2, ⟨fun j a e => ?_, fun a o e _ _ => k' a o e, fun a m n => ?_, fun a o e _ => ⟨o, k' a o e⟩⟩, DB, .own (i := led.length + 1) ?_, hk⟩
    · rw [atN_append, if_pos (by have := atN_some e; simp; omega), atN_append, if_pos (atN_some e)]; exact e
    · rcases List.mem_append.mp m with m | m
      · rcases List.mem_append.mp m with m | m
        · exact absurd m n
        · rw [List.mem_singleton.mp m]; exact f0
      · rw [List.mem_singleton.mp m]; exact f1
    · rw [atN_append, if_neg (by simp [D.len]), List.length_append, D.len, List.length_singleton, Nat.sub_self]; rfl
end
mutual
noncomputable def clean : SV → Bool
  | .own _ => false
  | .tup l => cleans l
  | _ => true
noncomputable def cleans : List SV → Bool
  | [] => true
  | v :: r => clean v && cleans r
end
section
variable {prog : Program} {w : World} {b : Heap} {lv : Nat} {h : Heap} {ρ ρ₀ : List Addr}
mutual
theorem Den.clean (q : Soft h ρ) : ∀ {sv v}, clean sv = true → Den h ρ₀ sv v → Den h ρ sv v
  | _, _, _, .none => .none
  | _, _, _, .bool c => .bool c
  | _, _, _, .int i t => .int i t
  | _, _, _, .str x t => .str x t
  | _, _, hc, .tup it _ ds => .tup it (fun m => by
      obtain ⟨o, e, c, n, d⟩ := it
      obtain ⟨o', e', h1, _⟩ := q _ m
      rw [e] at e'; cases e'; exact h1 _ _ c d) (Dens.clean q hc ds)
  | _, _, hc, .own _ => by cases hc
  | _, _, _, .glo a => .glo a
  | _, _, _, .prim v => .prim v
  | _, _, _, .rng h0 h1 hr _ => .rng h0 h1 hr fun m => by
      obtain ⟨o', e', _, h2⟩ := q _ m
      unfold IsRange at hr
      rw [hr] at e'; cases e'; exact h2 _ rfl rfl
  | _, _, _, .blist v xs => .blist v xs
theorem Dens.clean (q : Soft h ρ) : ∀ {l vs}, cleans l = true → Dens h ρ₀ l vs → Dens h ρ l vs
  | _, _, _, .nil => .nil
  | _, _, hc, .cons d ds => by
    unfold cleans at hc
    rw [Bool.and_eq_true] at hc
    exact .cons (Den.clean q hc.1 d) (Dens.clean q hc.2 ds)
end
theorem Led.soft {led : List SO} (D : Led prog w b h ρ led) : Soft h ρ := fun a hm => by
  obtain ⟨i, hi, e⟩ := List.mem_iff_getElem.mp hm
  have e1 : atN ρ i = some a := by rw [atN_eq, List.getElem?_eq_getElem hi, e]
  have hi' : i < led.length := D.len ▸ hi
  have e2 : atN led i = some led[i] := by rw [atN_eq, List.getElem?_eq_getElem hi']
  have key : ∀ {o}, Lay prog w h ρ o a → ∃ o, h.get? a = some o ∧ (∀ xs n, o.cls = .type "tuple" → o.data ≠ .seq xs n) ∧ ∀ vs, o.cls = .type "range" → o.data ≠ .fields vs := fun {o} l => by
    cases l with
    | list g _ => exact ⟨_, g, fun xs n c _ => (by injection c with c; exact absurd c (by decide)), fun vs c _ => (by injection c with c; exact absurd c (by decide))⟩
    | inst _ g => exact ⟨_, g, fun _ _ _ e => (by cases e), fun _ _ e => (by cases e)⟩
    | idict g _ _ => exact ⟨_, g, fun _ _ _ e => (by cases e), fun _ _ e => (by cases e)⟩
    | sdict g hd _ _ =>
      obtain ⟨es, ep, _, hdd, _⟩ := hd
      refine ⟨_, g, fun xs n _ e => ?_, fun vs _ e => ?_⟩ <;> (rw [hdd] at e; cases e)
    | tab0 g => exact ⟨_, g, fun _ _ _ e => (by cases e), fun _ e _ => (by cases e)⟩
    | tab1 g => exact ⟨_, g, fun _ _ _ e => (by cases e), fun _ e _ => (by cases e)⟩
  exact key (D.lay i a _ e1 e2)
theorem cleans_map {β : Type} {emb : β → SV} (h : ∀ x, clean (emb x) = true) : ∀ xs : List β, cleans (xs.map emb) = true
  | [] => rfl
  | x :: r => by
    show (clean (emb x) && cleans (r.map emb)) = true
    rw [h x, cleans_map h r]; rfl
theorem cleans_rep {x : SV} (h : clean x = true) : ∀ n : Nat, cleans (List.replicate n x) = true
  | 0 => rfl
  | n + 1 => by
    show (clean x && cleans (List.replicate n x)) = true
    rw [h, cleans_rep h n]; rfl
end
noncomputable def cleanL : SL → Bool
  | .lit l => cleans l
  | .rep _ x => clean x
  | _ => true
theorem cleanL_den {l : SL} (h : cleanL l = true) : cleans l.den = true := by
  cases l
  · exact h
  · exact cleans_map (emb := SV.int) (fun _ => rfl) _
  · exact cleans_map (emb := oin) (fun x => by cases x <;> rfl) _
  · exact cleans_map (emb := fr) (fun _ => rfl) _
  · exact cleans_map (emb := ofr) (fun x => by cases x <;> rfl) _
  · exact cleans_rep h _
/-- a contract of a function that reads one list and gives back what names no object -/
noncomputable def sRO (sp : SL → List SV → (SV → Prop) → Prop) : Spec := fun args led K => match args with
  | v :: rest => match v with
    | .own j => match itemOf led j with
      | .some l => match cleanL l with
        | true => match cleans rest with
          | true => sp l rest fun v => K v led
          | false => False
        | false => False
      | .none => False
    | _ => False
  | [] => False
section
variable {prog : Program} {w : World} {b : Heap} {lv : Nat} {Cf : Cfg}
theorem ro_ok (S : Sta prog w b) (HB : ∀ v xs, Cf.bl v xs → ∃ a vs, v = .ref a ∧ b.IsList a (List.toArray vs) ∧ IntsAre vs xs) (G : GlOk w Cf.gl) (HC : ∀ p ∈ Cf.call, SpecOk prog w b lv p.1 p.2) {a : Addr} {sx : Stmt} {q : Str} {doc pm cd ct : Value} {an : Option Addr}
    (hl : (heapK w.params).lookup a = some (fnOb sx q .none .none doc pm an cd ct 0)) (hg : fnGood sx = true) (hcd : codeIn (heapK w.params) cd q = true) {sp : SL → List SV → (SV → Prop) → Prop}
    (h : ∀ l rest K, sp l rest K → rest.length + 1 = (fnParams sx).length ∧ ∃ inv, bodyW { Cf with inv := inv } (fnSc sx) (fnBody sx) ⟨(fnParams sx).zip (.own 0 :: rest), [.list l]⟩ (kOf fun v led' => clean v = true ∧ (∃ more, led' = .list l :: more) ∧ K v)) : SpecOk prog w b (lv + 1) a (sRO sp) := by
  obtain ⟨fd, ef, hd, F⟩ := fn_open (q := q) (dV := .none) (doc := doc) (pm := pm) (cd := cd) (ct := ct) (an := an) hg
  rw [ef] at hl
  refine ⟨by unfold keepIn; dsimp only; rw [hl], fun A ρ led st vs us K hA D stays ds hsp => ?_⟩
  unfold sRO at hsp
  split at hsp <;> first | exact hsp.elim | skip
  rename_i v rest
  cases v <;> first | exact hsp.elim | skip
  rename_i j
  dsimp only at hsp
  split at hsp <;> first | exact hsp.elim | skip
  rename_i l ej
  split at hsp <;> first | exact hsp.elim | skip
  rename_i hcl
  split at hsp <;> first | exact hsp.elim | skip
  rename_i hcr
  obtain ⟨hlen, inv, hb⟩ := h l rest _ hsp
  have el : atN led j = some (.list l) := by
    unfold itemOf at ej
    cases e : atN led j with
    | none => rw [e] at ej; cases ej
    | some o => rw [e] at ej; cases o <;> first | (cases ej; done) | (cases ej; rfl)
  cases ds with
  | cons d0 ds =>
  rename_i u us
  cases d0 with
  | own ea =>
  rename_i aj
  have hmem := atN_mem ea
  have sf := D.soft
  have sf0 : Soft st.heap [aj] := fun c hm => sf c (by rw [List.mem_singleton.mp hm]; exact hmem)
  obtain ⟨as, kd, df, hp, hpar⟩ := F.par
  have hus := ds.length
  have D0 : Led prog w b st.heap [aj] [.list l] := by
    refine ⟨rfl, fun i j c ei ej => ?_, fun i c o ec eo => ?_, fun c hm => ?_⟩
    · match i, j, ei, ej with
      | 0, 0, _, _ => rfl
    · match i, ec, eo with
      | 0, ec, eo =>
        cases ec; cases eo
        cases D.lay j _ _ ea el with
        | list g dd => exact .list g (Dens.clean sf0 (cleanL_den hcl) dd)
    · rw [List.mem_singleton.mp hm]; exact D.off _ hmem
  refine wpAny_call (run_code (Cf := { Cf with inv := inv }) (lv := lv) S HB G HC hl F hcd hA D0 stays (.cons (.own rfl) (Dens.clean sf0 hcr ds)) (.of_eq ?_) hb fun v st' ρ' sv led' h1 h2 x D' d ⟨hc, ⟨more, e⟩, hk⟩ => ?_)
  · rw [← hpar]
    exact bind_plain hp hd (hpar ▸ F.parA) (by rw [hpar, List.length_cons]; omega)
  · subst e
    have a0 : atN ρ' 0 = some aj := x.pre 0 _ rfl
    cases D'.lay 0 _ _ a0 rfl with
    | list g' dd' =>
    have off : ∀ c ∈ ρ, c ≠ aj → c ∉ [aj] := fun c _ n m => n (List.mem_singleton.mp m)
    have sf' : Soft st'.heap ρ := fun c hm => by
      by_cases q : c = aj
      · subst q
        exact ⟨_, g', fun xs n c _ => (by injection c with c; exact absurd c (by decide)), fun vs c _ => (by injection c with c; exact absurd c (by decide))⟩
      · obtain ⟨o, e, r⟩ := sf c hm
        exact ⟨o, x.keep c o e (fun m => nomatch m) (off c hm q), r⟩
    have xE : Ext [] ρ st.heap ρ st'.heap := ⟨fun _ _ e => e, fun c o e _ nr => x.keep c o e (fun m => nomatch m) (fun m => nr (by rw [List.mem_singleton.mp m]; exact hmem)), fun _ m n => absurd m n, fun c o e _ => x.live c o e fun m => nomatch m⟩
    refine ⟨ρ, sv, led, h1, h2, xE, ⟨D.len, D.inj, fun i c o ec eo => ?_, D.off⟩, Den.clean sf' hc d, hk⟩
    by_cases q : c = aj
    · subst q
      obtain rfl := D.inj i j c ec ea
      rw [el] at eo; cases eo
      exact .list g' (Dens.clean sf' (cleanL_den hcl) dd')
    · exact (D.lay i c o ec eo).ext xE (fun _ m => nomatch m) fun o e => x.keep c o e (fun m => nomatch m) (off c (atN_mem ec) q)
end
set_option maxRecDepth 100000
noncomputable def half (x : Int) : Int × Int := (rn x 2, rd x 2)
theorem rd2_pos (x : Int) : 0 < rd x 2 := rd_pos (by omega)
theorem rd2_le (x : Int) : rd x 2 ≤ 2 := rd_le (by omega)
theorem half_add (a b : Int) : rn (rn a 2 * rd b 2 + rn b 2 * rd a 2) (rd a 2 * rd b 2) = rn (a + b) 2 ∧ rd (rn a 2 * rd b 2 + rn b 2 * rd a 2) (rd a 2 * rd b 2) = rd (a + b) 2 := by
  obtain ⟨h1, h2⟩ := red_add (a := a) (b := 2) (c := b) (d := 2) (by omega) (by omega)
  rw [h1, h2]
  exact red_eq (by omega) (by omega) (by omega)
theorem ok_small {a b : Int} (h0 : 0 ≤ b) (h1 : b ≤ 1000) : IntMulOk a b := IntMulOk.of_right (intBits_le_64 (by omega) (by omega))
noncomputable def on0 (rest : List SV) (P : Prop) : Prop := match rest with
  | [] => P
  | _ => False
theorem on0_of {rest : List SV} {P : Prop} (h : on0 rest P) : rest = [] ∧ P := by
  unfold on0 at h
  split at h
  · exact ⟨rfl, h⟩
  · exact h.elim
noncomputable def spSum (l : SL) (rest : List SV) (K : SV → Prop) : Prop := on0 rest <| ∃ hs : List Int, l = .frs (hs.map half) ∧ K (fr (half hs.sum))
noncomputable def iSum (hs : List Int) : Inv := .frs Int (fun s z => { s with loc := put s.loc (Str.ofString "total") (fr (half z)) }) (fun _ done z => ∃ ds rest, hs = ds ++ rest ∧ done = ds.map half ∧ z = ds.sum)
set_option maxRecDepth 100000
theorem vSum (hs : List Int) (led : List SO) (K : SV → List SO → Prop) : ((∃ a, (∃ ds rest, hs = ds ++ rest ∧ [] = List.map half ds ∧ a = ds.sum) ∧ [SO.list (SL.frs (List.map half hs))] = [SO.list (SL.frs (List.map half hs))] ∧ some (SV.own 0) = some (SV.own 0) ∧ some (SV.tup [SV.int 0, SV.int 1]) = some (SV.tup [SV.int (half a).fst, SV.int (half a).snd]) ∧ True) ∧ (∀ (a : Int), some (SO.list (SL.frs (List.map half hs))) = some (SO.list (SL.frs (List.map half hs)))) ∧ (∀ (done : List (Int × Int)) (b : Int × Int) (rest : List (Int × Int)) (a : Int), List.map half hs = done ++ b :: rest → (∃ ds rest, hs = ds ++ rest ∧ done = List.map half ds ∧ a = ds.sum) → (0 < (half a).snd ∧ 0 < b.snd ∧ IntMulOk (half a).fst b.snd ∧ IntMulOk b.fst (half a).snd ∧ IntMulOk (half a).snd b.snd) ∧ ∃ a', (∃ ds rest, hs = ds ++ rest ∧ done ++ [b] = List.map half ds ∧ a' = ds.sum) ∧ [SO.list (SL.frs (List.map half hs))] = [SO.list (SL.frs (List.map half hs))] ∧ some (SV.own 0) = some (SV.own 0) ∧ some (SV.tup [SV.int (rn ((half a).fst * b.snd + b.fst * (half a).snd) ((half a).snd * b.snd)), SV.int (rd ((half a).fst * b.snd + b.fst * (half a).snd) ((half a).snd * b.snd))]) = some (SV.tup [SV.int (half a').fst, SV.int (half a').snd]) ∧ True) ∧ ∀ (a : Int), (∃ ds rest, hs = ds ++ rest ∧ List.map half hs = List.map half ds ∧ a = ds.sum) → K (SV.tup [SV.int (half a).fst, SV.int (half a).snd]) [SO.list (SL.frs (List.map half hs))]) → bodyW (c0 [(167, sAdd)] [(150, iSum hs)]) (fnSc (fnAt 35)) (fnBody (fnAt 35)) ⟨(fnParams (fnAt 35)).zip [.own 0], [.list (.frs (hs.map half))]⟩ (kOf K) := Eq.mp (by kernel_rfl)

theorem half_cons {hs : List Int} {done rest : List (Int × Int)} {b : Int × Int} (h : hs.map half = done ++ b :: rest) : ∃ ds x rs, hs = ds ++ x :: rs ∧ done = ds.map half ∧ b = half x := by
  obtain ⟨ds, r, rfl, e1, e2⟩ := List.map_eq_append_iff.mp h
  obtain ⟨x, rs, rfl, e3, e4⟩ := List.map_eq_cons_iff.mp e2
  exact ⟨ds, x, rs, rfl, e1.symm, e3.symm⟩
noncomputable abbrev mSum : Value := .str (Str.ofString "vectorcove.summaries") 479
section
variable {prog : Program} {w : World} {b : Heap} {lv : Nat}
/-- what the done part of a list of halves sums to -/
theorem half_inj {a c : Int} (h : half a = half c) : a = c := by
  have h1 : rn a 2 = rn c 2 := congrArg Prod.fst h
  have h2 : rd a 2 = rd c 2 := congrArg Prod.snd h
  have e1 : rn a 2 * 2 = a * rd a 2 := red_cross
  have e2 : rn c 2 * 2 = c * rd c 2 := red_cross
  have p := rd2_pos a
  have q := rd2_le a
  rw [h1, h2] at e1
  rw [h2] at p q
  have : rd c 2 = 1 ∨ rd c 2 = 2 := by omega
  rcases this with z | z <;> rw [z] at e1 e2 <;> omega
theorem map_half_inj : ∀ {a c : List Int}, a.map half = c.map half → a = c
  | [], [], _ => rfl
  | x :: a, y :: c, h => by
    rw [List.map_cons, List.map_cons, List.cons.injEq] at h
    rw [half_inj h.1, map_half_inj h.2]
theorem sum_sp (S : Sta prog w b) : SpecOk prog w b (3 + 1) 259 (sRO spSum) :=
  ro_ok (Cf := c0 [(167, sAdd)] []) S (fun _ _ h => h.elim) (glob_ok w) (hc1 (add_sp S) hc0) (sx := fnAt 35) (q := Str.ofString "double_sum") (doc := .none) (pm := mSum) (an := none) (cd := .ref 258) (ct := .none) (by kernel_rfl) (by kernel_rfl) (by kernel_rfl) fun l rest K h => by
    obtain ⟨rfl, hs, rfl, hk⟩ := on0_of h
    refine ⟨by kernel_rfl, _, vSum hs [] _ ⟨⟨0, ⟨[], hs, rfl, rfl, rfl⟩, rfl, rfl, rfl, trivial⟩, fun _ => rfl, fun done b rest a e ⟨ds, rs, e1, e2, e3⟩ => ?_, fun a ⟨ds, rs, e1, e2, e3⟩ => ?_⟩⟩
    · obtain ⟨ds', x, rs', e4, e5, rfl⟩ := half_cons e
      obtain rfl := map_half_inj (e2.symm.trans e5)
      obtain ⟨h1, h2⟩ := half_add a x
      have p1 := rd2_pos a
      have p2 := rd2_le a
      have p3 := rd2_pos x
      have p4 := rd2_le x
      refine ⟨⟨p1, p3, ok_small (by show 0 ≤ rd x 2; omega) (by show rd x 2 ≤ _; omega), ok_small (by show 0 ≤ rd a 2; omega) (by show rd a 2 ≤ _; omega), ok_small (by show 0 ≤ rd x 2; omega) (by show rd x 2 ≤ _; omega)⟩, a + x, ⟨ds ++ [x], rs', by rw [e4]; simp, by rw [e5]; simp, by rw [e3]; simp⟩, rfl, rfl, ?_, trivial⟩
      show some (SV.tup [.int (rn (rn a 2 * rd x 2 + rn x 2 * rd a 2) (rd a 2 * rd x 2)), .int (rd (rn a 2 * rd x 2 + rn x 2 * rd a 2) (rd a 2 * rd x 2))]) = _
      rw [h1, h2]; rfl
    · obtain rfl := map_half_inj e2
      subst e3
      exact ⟨rfl, ⟨[], rfl⟩, hk⟩
end
set_option maxRecDepth 100000
noncomputable def meanF (hs : List Int) : SV := match hs with
  | [] => .tup [.int 0, .int 0]
  | _ :: _ => .tup [.int (rn hs.sum (2 * (hs.length : Int))), .int (rd hs.sum (2 * (hs.length : Int)))]
noncomputable def spMean (l : SL) (rest : List SV) (K : SV → Prop) : Prop := on0 rest <| ∃ hs : List Int, l = .frs (hs.map half) ∧ hs.length ≤ 100 ∧ K (meanF hs)
noncomputable def spLack (l : SL) (rest : List SV) (K : SV → Prop) : Prop := on0 rest <| ∃ hs : List Int, l = .frs (hs.map half) ∧ K (.bool false)
noncomputable def iLack (hs : List Int) : Inv := .frs Unit (fun s _ => s) (fun _ _ _ => True)
set_option maxRecDepth 100000
theorem vMean (hs : List Int) (led : List SO) (K : SV → List SO → Prop) : ((List.map half hs).length.le (1000 : Nat) ∧ brn (!decide ((0 : Nat) < (SL.frs (List.map half hs)).len)) (K (SV.tup [SV.int (0 : Int), SV.int (0 : Int)]) [SO.list (SL.frs (List.map half hs))]) (∃ (hs_1 : List Int), SL.frs (List.map half hs) = SL.frs (List.map half hs_1) ∧ (List.map half hs).length.le (1000 : Nat) ∧ ((0 : Int) < (half hs_1.sum).snd ∧ (0 : Int) < (1 : Int) ∧ (0 : Int) < (↑(List.map half hs).length : Int) ∧ IntMulOk (half hs_1.sum).fst (1 : Int) ∧ IntMulOk (half hs_1.sum).snd (↑(List.map half hs).length : Int)) ∧ K (SV.tup [SV.int (rn ((half hs_1.sum).fst * (1 : Int)) ((half hs_1.sum).snd * (↑(List.map half hs).length : Int))), SV.int (rd ((half hs_1.sum).fst * (1 : Int)) ((half hs_1.sum).snd * (↑(List.map half hs).length : Int)))]) [SO.list (SL.frs (List.map half hs))])) → bodyW (c0 [(259, sRO spSum), (125, sFrom), (188, sDiv)] []) (fnSc (fnAt 37)) (fnBody (fnAt 37)) ⟨(fnParams (fnAt 37)).zip [.own 0], [.list (.frs (hs.map half))]⟩ (kOf K) := Eq.mp (by kernel_rfl)
theorem vLack (hs : List Int) (led : List SO) (K : SV → List SO → Prop) : ((∃ (a : Unit), True ∧ [SO.list (SL.frs (List.map half hs))] = [SO.list (SL.frs (List.map half hs))] ∧ some (SV.own (0 : Nat)) = some (SV.own (0 : Nat)) ∧ True) ∧ (∀ (a : Unit), some (SO.list (SL.frs (List.map half hs))) = some (SO.list (SL.frs (List.map half hs)))) ∧ (∀ (done : List (Int × Int)) (b : Int × Int) (rest : List (Int × Int)) (a : Unit), List.map half hs = done ++ b :: rest → True → (0 : Int) < b.snd ∧ ∃ (a' : Unit), True ∧ [SO.list (SL.frs (List.map half hs))] = [SO.list (SL.frs (List.map half hs))] ∧ some (SV.own (0 : Nat)) = some (SV.own (0 : Nat)) ∧ True) ∧ ∀ (a : Unit), True → K (SV.bool false) [SO.list (SL.frs (List.map half hs))]) → bodyW (c0 [(132, sIsna)] [(177, iLack hs)]) (fnSc (fnAt 40)) (fnBody (fnAt 40)) ⟨(fnParams (fnAt 40)).zip [.own 0], [.list (.frs (hs.map half))]⟩ (kOf K) := Eq.mp (by kernel_rfl)

theorem ok_left {a b : Int} (h0 : 0 ≤ a) (h1 : a ≤ 1000) : IntMulOk a b := IntMulOk.of_left (intBits_le_64 (by omega) (by omega))
theorem mean_fin {S c : Int} (hc : 0 < c) : rn (rn S 2 * 1) (rd S 2 * c) = rn S (2 * c) ∧ rd (rn S 2 * 1) (rd S 2 * c) = rd S (2 * c) := by
  refine red_eq (Int.mul_pos (rd2_pos S) hc) (by omega) ?_
  have h1 : rn S 2 * 2 = S * rd S 2 := red_cross
  grind
section
variable {prog : Program} {w : World} {b : Heap}
theorem mean_sp (S : Sta prog w b) : SpecOk prog w b (4 + 1) 271 (sRO spMean) :=
  ro_ok (Cf := c0 [(259, sRO spSum), (125, sFrom), (188, sDiv)] []) S (fun _ _ h => h.elim) (glob_ok w) (hc1 (sum_sp S) (hc1 ((from_sp S).up (by omega)) (hc1 ((div_sp S).up (by omega)) hc0))) (sx := fnAt 37) (q := Str.ofString "mean_items") (doc := .none) (pm := mSum) (an := none) (cd := .ref 270) (ct := .none) (by kernel_rfl) (by kernel_rfl) (by kernel_rfl) fun l rest K h => by
    obtain ⟨rfl, hs, rfl, hl, hk⟩ := on0_of h
    refine ⟨by kernel_rfl, _, vMean hs [] _ ⟨by rw [List.length_map]; exact Nat.le_trans hl (by decide), ?_⟩⟩
    cases hs with
    | nil => exact ⟨rfl, ⟨[], rfl⟩, hk⟩
    | cons x r =>
      generalize hh : x :: r = hs at *
      have pos : 0 < hs.length := by rw [← hh]; exact Nat.succ_pos _
      have e : decide (0 < (SL.frs (hs.map half)).len) = true := decide_eq_true (by show 0 < (hs.map half).length; rw [List.length_map]; exact pos)
      rw [e]
      have p1 := rd2_pos hs.sum
      have p2 := rd2_le hs.sum
      have hc : (0 : Int) < (((hs.map half).length : Nat) : Int) := by rw [List.length_map]; omega
      obtain ⟨e1, e2⟩ := mean_fin (S := hs.sum) hc
      refine ⟨hs, rfl, by rw [List.length_map]; exact Nat.le_trans hl (by decide), ⟨p1, (by decide : (0 : Int) < 1), hc, ok_small (b := 1) (by omega) (by omega), ok_left (by show 0 ≤ rd hs.sum 2; omega) (by show rd hs.sum 2 ≤ _; omega)⟩, rfl, ⟨[], rfl⟩, ?_⟩
      show K (SV.tup [.int (rn (rn hs.sum 2 * 1) (rd hs.sum 2 * _)), .int (rd (rn hs.sum 2 * 1) (rd hs.sum 2 * _))])
      rw [e1, e2, List.length_map]
      rw [← hh] at hk ⊢
      exact hk
theorem lack_sp (S : Sta prog w b) : SpecOk prog w b (1 + 1) 292 (sRO spLack) :=
  ro_ok (Cf := c0 [(132, sIsna)] []) S (fun _ _ h => h.elim) (glob_ok w) (hc1 (isna_sp S) hc0) (sx := fnAt 40) (q := Str.ofString "lacking_item") (doc := .none) (pm := mSum) (an := none) (cd := .ref 291) (ct := .none) (by kernel_rfl) (by kernel_rfl) (by kernel_rfl) fun l rest K h => by
    obtain ⟨rfl, hs, rfl, hk⟩ := on0_of h
    refine ⟨by kernel_rfl, _, vLack hs [] _ ?_⟩
    refine ⟨⟨(), trivial, rfl, rfl, trivial⟩, fun _ => rfl, fun done b rest a e _ => ?_, fun _ _ => ⟨rfl, ⟨[], rfl⟩, hk⟩⟩
    obtain ⟨ds', x, rs', e4, e5, rfl⟩ := half_cons e
    exact ⟨rd2_pos x, (), trivial, rfl, rfl, trivial⟩
end
set_option maxRecDepth 100000
noncomputable def fr2 (n d : Int) (f : Int → Int → Prop) : Prop := ∀ x y, x = n → y = d → f x y
theorem fr2_of {n d : Int} {f : Int → Int → Prop} (h : fr2 n d f) : f n d := h n d rfl rfl
noncomputable def sSubV : Spec := fun args led K => on2 args fun x y => asFr x fun a b => asFr y fun c d => (0 < b ∧ 0 < d ∧ IntMulOk a d ∧ IntMulOk (0 - c) b ∧ IntMulOk b d) ∧ fr2 (rn (a * d + (0 - c) * b) (b * d)) (rd (a * d + (0 - c) * b) (b * d)) fun n e => K (.tup [.int n, .int e]) led
noncomputable def sMulV : Spec := fun args led K => on2 args fun x y => asFr x fun a b => asFr y fun c d => (0 < b ∧ 0 < d ∧ IntMulOk a c ∧ IntMulOk b d) ∧ fr2 (rn (a * c) (b * d)) (rd (a * c) (b * d)) fun n e => K (.tup [.int n, .int e]) led
noncomputable def sFloorV : Spec := fun args led K => on1 args fun a => asFr a fun n d => 0 < d ∧ ∀ z, z = n.fdiv d → K (.tup [.int z, .int 1]) led
noncomputable def sFromV : Spec := fun args led K => on1 args fun a => asInt a fun n => ∀ z, z = n → K (.tup [.int z, .int 1]) led
section
variable {prog : Program} {w : World} {b : Heap} {lv : Nat}
theorem SpecOk.weak {a : Addr} {sp sp' : Spec} (h : SpecOk prog w b lv a sp) (i : ∀ args led K, sp' args led K → sp args led K) : SpecOk prog w b lv a sp' := ⟨h.1, fun A ρ led st vs us K hA D s ds x => h.2 A ρ led st vs us K hA D s ds (i _ _ _ x)⟩
theorem on1_imp {args : List SV} {f g : SV → Prop} (h : on1 args f) (i : ∀ a, f a → g a) : on1 args g := by obtain ⟨a, rfl, h⟩ := on1_of h; exact i a h
theorem on2_imp {args : List SV} {f g : SV → SV → Prop} (h : on2 args f) (i : ∀ a c, f a c → g a c) : on2 args g := by obtain ⟨a, c, rfl, h⟩ := on2_of h; exact i a c h
theorem asFr_imp {v : SV} {f g : Int → Int → Prop} (h : asFr v f) (i : ∀ a c, f a c → g a c) : asFr v g := by obtain ⟨a, c, rfl, h⟩ := asFr_of h; exact i a c h
theorem asInt_imp {v : SV} {f g : Int → Prop} (h : asInt v f) (i : ∀ a, f a → g a) : asInt v g := by obtain ⟨a, rfl, h⟩ := asInt_of h; exact i a h
theorem subV_sp (S : Sta prog w b) : SpecOk prog w b (3 + 1) 174 sSubV := (sub_sp S).weak fun _ _ _ h => on2_imp h fun _ _ h => asFr_imp h fun _ _ h => asFr_imp h fun _ _ h => ⟨h.1, fr2_of h.2⟩
theorem mulV_sp (S : Sta prog w b) : SpecOk prog w b (2 + 1) 181 sMulV := (mul_sp S).weak fun _ _ _ h => on2_imp h fun _ _ h => asFr_imp h fun _ _ h => asFr_imp h fun _ _ h => ⟨h.1, fr2_of h.2⟩
theorem floorV_sp (S : Sta prog w b) : SpecOk prog w b (1 + 1) 195 sFloorV := (floor_sp S).weak fun _ _ _ h => on1_imp h fun _ h => asFr_imp h fun _ _ h => ⟨h.1, h.2 _ rfl⟩
theorem fromV_sp (S : Sta prog w b) : SpecOk prog w b (0 + 1) 125 sFromV := (from_sp S).weak fun _ _ _ h => on1_imp h fun _ h => asInt_imp h fun _ h => h _ rfl
end
theorem q_range {q : Int} (h0 : 0 ≤ q) (h4 : q ≤ 4) : 0 ≤ rn q 4 ∧ rn q 4 ≤ rd q 4 ∧ 0 < rd q 4 ∧ rd q 4 ≤ 4 := by
  have h : q = 0 ∨ q = 1 ∨ q = 2 ∨ q = 3 ∨ q = 4 := by omega
  rcases h with rfl | rfl | rfl | rfl | rfl <;> decide
theorem q_mul {q m : Int} : rn (rn q 4 * m) (rd q 4 * 1) = rn (q * m) 4 ∧ rd (rn q 4 * m) (rd q 4 * 1) = rd (q * m) 4 := by
  have h1 : 0 < rd q 4 := rd_pos (by omega)
  refine red_eq (by omega) (by omega) ?_
  have h : rn q 4 * 4 = q * rd q 4 := red_cross
  generalize rn q 4 = a at *
  generalize rd q 4 = b at *
  grind
theorem floor_red {y d : Int} (hd : 0 < d) : rn y d / rd y d = y / d := by
  have h1 : 0 < rd y d := rd_pos hd
  have hg : (0 : Int) < (Int.gcd y d : Int) := Int.ofNat_lt.mpr (gcd_pos' (n := y) hd)
  have e1 := rn_mul y d
  have e2 := rd_mul y d
  have h := Int.mul_ediv_mul_of_pos_left (rn y d) (rd y d) hg
  rw [e1, e2] at h
  exact h.symm
theorem q_part {y low : Int} : rn (rn y 4 * 1 + -low * rd y 4) (rd y 4 * 1) = rn (y - 4 * low) 4 ∧ rd (rn y 4 * 1 + -low * rd y 4) (rd y 4 * 1) = rd (y - 4 * low) 4 := by
  have h1 : 0 < rd y 4 := rd_pos (by omega)
  refine red_eq (by omega) (by omega) ?_
  have h : rn y 4 * 4 = y * rd y 4 := red_cross
  generalize rn y 4 = a at *
  generalize rd y 4 = b at *
  grind
theorem q_sub {a b : Int} : rn (rn b 2 * rd a 2 + -(rn a 2) * rd b 2) (rd b 2 * rd a 2) = rn (b - a) 2 ∧ rd (rn b 2 * rd a 2 + -(rn a 2) * rd b 2) (rd b 2 * rd a 2) = rd (b - a) 2 := by
  refine red_eq (Int.mul_pos (rd2_pos b) (rd2_pos a)) (by omega) ?_
  have h : rn a 2 * 2 = a * rd a 2 := red_cross
  have h' : rn b 2 * 2 = b * rd b 2 := red_cross
  generalize rn a 2 = x at *
  generalize rd a 2 = u at *
  generalize rn b 2 = y at *
  generalize rd b 2 = v at *
  grind
theorem q_times {r c : Int} : rn (rn r 4 * rn c 2) (rd r 4 * rd c 2) = rn (r * c) 8 ∧ rd (rn r 4 * rn c 2) (rd r 4 * rd c 2) = rd (r * c) 8 := by
  have h := red_mulf (a := r) (b := 4) (c := c) (d := 2) (by omega) (by omega)
  exact h
theorem q_last {a c : Int} : rn (rn a 2 * rd c 8 + rn c 8 * rd a 2) (rd a 2 * rd c 8) = rn (4 * a + c) 8 ∧ rd (rn a 2 * rd c 8 + rn c 8 * rd a 2) (rd a 2 * rd c 8) = rd (4 * a + c) 8 := by
  have h := red_add (a := a) (b := 2) (c := c) (d := 8) (by omega) (by omega)
  have h2 := red_eq (n := a * 8 + c * 2) (d := 2 * 8) (n' := 4 * a + c) (d' := 8) (by omega) (by omega) (by omega)
  exact ⟨h.1.trans h2.1, h.2.trans h2.2⟩
theorem q_same {a : Int} : rn a 2 = rn (4 * a) 8 ∧ rd a 2 = rd (4 * a) 8 := red_eq (by omega) (by omega) (by omega)
theorem rn_zero {r : Int} (h0 : 0 ≤ r) (h4 : r < 4) : (rn r 4 = 0 ↔ r = 0) ∧ -1000 ≤ rn r 4 ∧ rn r 4 ≤ 1000 ∧ 0 < rd r 4 ∧ rd r 4 ≤ 1000 := by
  have h : r = 0 ∨ r = 1 ∨ r = 2 ∨ r = 3 := by omega
  rcases h with rfl | rfl | rfl | rfl <;> decide

set_option maxRecDepth 100000
theorem vQuant (hs : List Int) (q m : Int) (led : List SO) (K : SV → List SO → Prop) : ((0 : Int) < m ∧ brn (decide (q < (0 : Int))) False (brn (decide (m < q)) False ((List.map half hs).length.le (1000 : Nat) ∧ brn (!decide ((0 : Nat) < (SL.frs (List.map half hs)).len)) (K SV.none [SO.list (SL.frs (List.map half hs))]) ((List.map half hs).length.le (1000 : Nat) ∧ ∀ (z : Int), z = (↑(List.map half hs).length : Int) - (1 : Int) → ((0 : Int) < m ∧ (0 : Int) < (1 : Int) ∧ IntMulOk q z ∧ IntMulOk m (1 : Int)) ∧ ∀ (x y : Int), x = rn (q * z) (m * (1 : Int)) → y = rd (q * z) (m * (1 : Int)) → (0 : Int) < y ∧ ∀ (z : Int), z = x.fdiv y → ∀ (z_1 : Int), z_1 = z → ((0 : Int) < y ∧ (0 : Int) < (1 : Int) ∧ IntMulOk x (1 : Int) ∧ IntMulOk ((0 : Int) - z_1) y ∧ IntMulOk y (1 : Int)) ∧ ∀ (x_1 y_1 : Int), x_1 = rn (x * (1 : Int) + ((0 : Int) - z_1) * y) (y * (1 : Int)) → y_1 = rd (x * (1 : Int) + ((0 : Int) - z_1) * y) (y * (1 : Int)) → brn (decide (x_1 = (0 : Int))) (((0 : Int) ≤ z ∧ z < (↑(List.map half hs).length : Int) ∧ z < (1000 : Int)) ∧ K (fr ((List.map half hs).getD z.toNat ((0 : Int), (0 : Int)))) [SO.list (SL.frs (List.map half hs))]) (((0 : Int) ≤ z ∧ z < (↑(List.map half hs).length : Int) ∧ z < (1000 : Int)) ∧ ((0 : Int) ≤ z + (1 : Int) ∧ z + (1 : Int) < (↑(List.map half hs).length : Int) ∧ z + (1 : Int) < (1000 : Int)) ∧ ((0 : Int) ≤ z ∧ z < (↑(List.map half hs).length : Int) ∧ z < (1000 : Int)) ∧ ((0 : Int) < ((List.map half hs).getD (z + (1 : Int)).toNat ((0 : Int), (0 : Int))).snd ∧ (0 : Int) < ((List.map half hs).getD z.toNat ((0 : Int), (0 : Int))).snd ∧ IntMulOk ((List.map half hs).getD (z + (1 : Int)).toNat ((0 : Int), (0 : Int))).fst ((List.map half hs).getD z.toNat ((0 : Int), (0 : Int))).snd ∧ IntMulOk ((0 : Int) - ((List.map half hs).getD z.toNat ((0 : Int), (0 : Int))).fst) ((List.map half hs).getD (z + (1 : Int)).toNat ((0 : Int), (0 : Int))).snd ∧ IntMulOk ((List.map half hs).getD (z + (1 : Int)).toNat ((0 : Int), (0 : Int))).snd ((List.map half hs).getD z.toNat ((0 : Int), (0 : Int))).snd) ∧ ∀ (x y : Int), x = rn (((List.map half hs).getD (z + (1 : Int)).toNat ((0 : Int), (0 : Int))).fst * ((List.map half hs).getD z.toNat ((0 : Int), (0 : Int))).snd + ((0 : Int) - ((List.map half hs).getD z.toNat ((0 : Int), (0 : Int))).fst) * ((List.map half hs).getD (z + (1 : Int)).toNat ((0 : Int), (0 : Int))).snd) (((List.map half hs).getD (z + (1 : Int)).toNat ((0 : Int), (0 : Int))).snd * ((List.map half hs).getD z.toNat ((0 : Int), (0 : Int))).snd) → y = rd (((List.map half hs).getD (z + (1 : Int)).toNat ((0 : Int), (0 : Int))).fst * ((List.map half hs).getD z.toNat ((0 : Int), (0 : Int))).snd + ((0 : Int) - ((List.map half hs).getD z.toNat ((0 : Int), (0 : Int))).fst) * ((List.map half hs).getD (z + (1 : Int)).toNat ((0 : Int), (0 : Int))).snd) (((List.map half hs).getD (z + (1 : Int)).toNat ((0 : Int), (0 : Int))).snd * ((List.map half hs).getD z.toNat ((0 : Int), (0 : Int))).snd) → ((0 : Int) < y_1 ∧ (0 : Int) < y ∧ IntMulOk x_1 x ∧ IntMulOk y_1 y) ∧ ∀ (x_2 y_2 : Int), x_2 = rn (x_1 * x) (y_1 * y) → y_2 = rd (x_1 * x) (y_1 * y) → ((0 : Int) < ((List.map half hs).getD z.toNat ((0 : Int), (0 : Int))).snd ∧ (0 : Int) < y_2 ∧ IntMulOk ((List.map half hs).getD z.toNat ((0 : Int), (0 : Int))).fst y_2 ∧ IntMulOk x_2 ((List.map half hs).getD z.toNat ((0 : Int), (0 : Int))).snd ∧ IntMulOk ((List.map half hs).getD z.toNat ((0 : Int), (0 : Int))).snd y_2) ∧ K (SV.tup [SV.int (rn (((List.map half hs).getD z.toNat ((0 : Int), (0 : Int))).fst * y_2 + x_2 * ((List.map half hs).getD z.toNat ((0 : Int), (0 : Int))).snd) (((List.map half hs).getD z.toNat ((0 : Int), (0 : Int))).snd * y_2)), SV.int (rd (((List.map half hs).getD z.toNat ((0 : Int), (0 : Int))).fst * y_2 + x_2 * ((List.map half hs).getD z.toNat ((0 : Int), (0 : Int))).snd) (((List.map half hs).getD z.toNat ((0 : Int), (0 : Int))).snd * y_2))]) [SO.list (SL.frs (List.map half hs))]))))) → bodyW (c0 [(139, sIsnan), (181, sMulV), (125, sFromV), (195, sFloorV), (174, sSubV), (167, sAdd)] []) (fnSc (fnAt 41)) (fnBody (fnAt 41)) ⟨(fnParams (fnAt 41)).zip [.own 0, .tup [.int q, .int m]], [.list (.frs (hs.map half))]⟩ (kOf K) := Eq.mp (by kernel_rfl)

/-- the quarter q of the row of halves hs, as the program reckons it -/
noncomputable def qVal (hs : List Int) (q : Int) : SV := match hs with
  | [] => .none
  | _ :: _ => fr (rn (4 * hs.getD ((q * ((hs.length : Int) - 1)) / 4).toNat 0 + (q * ((hs.length : Int) - 1)) % 4 * (hs.getD ((q * ((hs.length : Int) - 1)) / 4 + 1).toNat 0 - hs.getD ((q * ((hs.length : Int) - 1)) / 4).toNat 0)) 8,
      rd (4 * hs.getD ((q * ((hs.length : Int) - 1)) / 4).toNat 0 + (q * ((hs.length : Int) - 1)) % 4 * (hs.getD ((q * ((hs.length : Int) - 1)) / 4 + 1).toNat 0 - hs.getD ((q * ((hs.length : Int) - 1)) / 4).toNat 0)) 8)
noncomputable def spQuant (l : SL) (rest : List SV) (K : SV → Prop) : Prop := on1 rest fun p => asFr p fun n d => ∃ (hs : List Int) (q : Int), l = .frs (hs.map half) ∧ hs.length ≤ 100 ∧ 0 ≤ q ∧ q ≤ 4 ∧ n = rn q 4 ∧ d = rd q 4 ∧ K (qVal hs q)
theorem getD_half {hs : List Int} {i : Nat} (h : i < hs.length) : (hs.map half).getD i (0, 0) = half (hs.getD i 0) := by
  simp [List.getD_eq_getElem?_getD, h]
section
variable {prog : Program} {w : World} {b : Heap}
theorem quant_sp (S : Sta prog w b) : SpecOk prog w b (4 + 1) 299 (sRO spQuant) :=
  ro_ok (Cf := c0 [(139, sIsnan), (181, sMulV), (125, sFromV), (195, sFloorV), (174, sSubV), (167, sAdd)] []) S (fun _ _ h => h.elim) (glob_ok w) (hc1 ((isnan_sp S).up (by omega)) (hc1 ((mulV_sp S).up (by omega)) (hc1 ((fromV_sp S).up (by omega)) (hc1 ((floorV_sp S).up (by omega)) (hc1 (subV_sp S) (hc1 ((add_sp S).up (by omega)) hc0))))))
    (sx := fnAt 41) (q := Str.ofString "quantile_item") (doc := .none) (pm := mSum) (an := none) (cd := .ref 298) (ct := .none) (by kernel_rfl) (by kernel_rfl) (by kernel_rfl) fun l rest K h => by
    obtain ⟨p, rfl, h⟩ := on1_of h
    obtain ⟨n, d, rfl, hs, q, rfl, hl, q0, q4, rfl, rfl, hk⟩ := asFr_of h
    obtain ⟨r0, r1, r2, r3⟩ := q_range q0 q4
    have hlen : (hs.map half).length = hs.length := List.length_map _
    have hle : (hs.map half).length.le 1000 := by rw [hlen]; exact Nat.le_trans hl (by decide)
    refine ⟨by kernel_rfl, _, vQuant hs (rn q 4) (rd q 4) [] _ ⟨r2, brn_f (by omega) (brn_f (by omega) ⟨hle, ?_⟩)⟩⟩
    cases hs with
    | nil => exact ⟨rfl, ⟨[], rfl⟩, hk⟩
    | cons x0 xs =>
      generalize hh : x0 :: xs = hs at *
      have pos : 0 < hs.length := by rw [← hh]; exact Nat.succ_pos _
      rw [show decide ((0 : Nat) < (SL.frs (hs.map half)).len) = true from decide_eq_true (by show 0 < (hs.map half).length; omega)]
      refine ⟨hle, fun z ez => ⟨⟨r2, by decide, ok_left r0 (by omega), ok_left (by omega) (by omega)⟩, fun x y ex ey => ?_⟩⟩
      obtain ⟨e1, e2⟩ := q_mul (q := q) (m := z)
      rw [e1] at ex; rw [e2] at ey
      have py : 0 < y := by rw [ey]; exact rd_pos (by omega)
      have ly : y ≤ 4 := by rw [ey]; exact rd_le (by omega)
      refine ⟨py, fun lo elo lo' elo' => ?_⟩
      subst elo'
      have elo2 : lo' = q * z / 4 := by
        rw [elo, Int.fdiv_eq_ediv_of_nonneg _ (by omega), ex, ey]; exact floor_red (by omega)
      refine ⟨⟨py, by decide, ok_small (b := 1) (by omega) (by omega), ok_small (by omega) (by omega), ok_left (by omega) (by omega)⟩, fun x1 y1 ex1 ey1 => ?_⟩
      have hz0 : 0 ≤ z := by rw [ez, hlen]; omega
      have hzl : z = (hs.length : Int) - 1 := by rw [ez, hlen]
      have hY0 : 0 ≤ q * z := Int.mul_nonneg q0 hz0
      have hY4 : q * z ≤ 4 * z := Int.mul_le_mul_of_nonneg_right q4 hz0
      obtain ⟨e3, e4⟩ := q_part (y := q * z) (low := lo')
      rw [ex, ey, Int.zero_sub, e3] at ex1
      rw [ex, ey, Int.zero_sub, e4] at ey1
      have er : q * z - 4 * lo' = q * z % 4 := by omega
      rw [er] at ex1 ey1
      have hr0 : 0 ≤ q * z % 4 := by omega
      have hr4 : q * z % 4 < 4 := by omega
      have hk' : K (fr (rn (4 * hs.getD lo'.toNat 0 + q * z % 4 * (hs.getD (lo' + 1).toNat 0 - hs.getD lo'.toNat 0)) 8, rd (4 * hs.getD lo'.toNat 0 + q * z % 4 * (hs.getD (lo' + 1).toNat 0 - hs.getD lo'.toNat 0)) 8)) := by
        rw [elo2, hzl]
        rw [← hh] at hk ⊢
        exact hk
      clear hk
      generalize q * z = Y at *
      generalize hr : Y % 4 = r at *
      obtain ⟨z1, z2, z3, z4, z5⟩ := rn_zero hr0 hr4
      have hlo0 : 0 ≤ lo' := by omega
      have hlol : lo' < (hs.length : Int) := by omega
      have ha : (hs.map half).getD lo'.toNat (0, 0) = half (hs.getD lo'.toNat 0) := getD_half (by omega)
      have bd : (0 : Int) ≤ lo' ∧ lo' < (((hs.map half).length : Nat) : Int) ∧ lo' < 1000 := ⟨hlo0, by rw [hlen]; exact hlol, by omega⟩
      refine brn_d (fun e => ⟨bd, ?_⟩) fun e => ⟨bd, ?_⟩
      · have hr0 : r = 0 := z1.mp (ex1 ▸ e)
        subst hr0
        refine ⟨rfl, ⟨[], rfl⟩, ?_⟩
        rw [ha]
        rw [Int.zero_mul, Int.add_zero, ← q_same.1, ← q_same.2] at hk'
        exact hk'
      · have hr1 : r ≠ 0 := fun e' => e (by rw [ex1]; exact z1.mpr e')
        have hlo1 : lo' + 1 < (hs.length : Int) := by omega
        have hc : (hs.map half).getD (lo' + 1).toNat (0, 0) = half (hs.getD (lo' + 1).toNat 0) := getD_half (by omega)
        rw [ha, hc]
        generalize hs.getD lo'.toNat 0 = a at *
        generalize hs.getD (lo' + 1).toNat 0 = c at *
        have pa := rd2_pos a
        have la := rd2_le a
        have pc := rd2_pos c
        have lc := rd2_le c
        refine ⟨⟨by omega, by rw [hlen]; exact hlo1, by omega⟩, bd, ⟨pc, pa, ok_small (by show 0 ≤ rd a 2; omega) (by show rd a 2 ≤ _; omega), ok_small (by show 0 ≤ rd c 2; omega) (by show rd c 2 ≤ _; omega), ok_small (by show 0 ≤ rd a 2; omega) (by show rd a 2 ≤ _; omega)⟩, fun x2 y2 ex2 ey2 => ?_⟩
        replace ex2 : x2 = rn (rn c 2 * rd a 2 + (0 - rn a 2) * rd c 2) (rd c 2 * rd a 2) := ex2
        replace ey2 : y2 = rd (rn c 2 * rd a 2 + (0 - rn a 2) * rd c 2) (rd c 2 * rd a 2) := ey2
        obtain ⟨f1, f2⟩ := q_sub (a := a) (b := c)
        rw [Int.zero_sub, f1] at ex2
        rw [Int.zero_sub, f2] at ey2
        have py1 : 0 < y1 := by rw [ey1]; exact z4
        have ly1 : y1 ≤ 1000 := by rw [ey1]; exact z5
        have py2 : 0 < y2 := by rw [ey2]; exact rd2_pos _
        have ly2 : y2 ≤ 2 := by rw [ey2]; exact rd2_le _
        have bx1 : IntMulOk x1 x2 := IntMulOk.of_left (intBits_le_64 (by rw [ex1]; omega) (by rw [ex1]; omega))
        refine ⟨⟨py1, py2, bx1, ok_left (by omega) (by omega)⟩, fun x3 y3 ex3 ey3 => ?_⟩
        obtain ⟨g1, g2⟩ := q_times (r := r) (c := c - a)
        rw [ex1, ey1, ex2, ey2, g1] at ex3
        rw [ey1, ey2, ex1, ex2, g2] at ey3
        have py3 : 0 < y3 := by rw [ey3]; exact rd_pos (by omega)
        have ly3 : y3 ≤ 8 := by rw [ey3]; exact rd_le (by omega)
        refine ⟨⟨pa, py3, ok_small (by omega) (by omega), ok_small (by show 0 ≤ rd a 2; omega) (by show rd a 2 ≤ _; omega), ok_small (by omega) (by omega)⟩, rfl, ⟨[], rfl⟩, ?_⟩
        obtain ⟨k1, k2⟩ := q_last (a := a) (c := r * (c - a))
        show K (SV.tup [.int (rn (rn a 2 * y3 + x3 * rd a 2) (rd a 2 * y3)), .int (rd (rn a 2 * y3 + x3 * rd a 2) (rd a 2 * y3))])
        rw [ex3, ey3, k1, k2]
        exact hk'
end
/-- a callee walked in place -/
noncomputable def sInl (C : Cfg) (k : Nat) : Spec := fun args led K => match Nat.beq args.length (fnParams (fnAt k)).length with
  | true => bodyW C (fnSc (fnAt k)) (fnBody (fnAt k)) ⟨(fnParams (fnAt k)).zip args, led⟩ (kOf K)
  | false => False
section
variable {prog : Program} {w : World} {b : Heap} {lv : Nat} {Cf : Cfg}
theorem inl_ok (S : Sta prog w b) (HB : ∀ v xs, Cf.bl v xs → ∃ a vs, v = .ref a ∧ b.IsList a (List.toArray vs) ∧ IntsAre vs xs) (G : GlOk w Cf.gl) (HC : ∀ p ∈ Cf.call, SpecOk prog w b lv p.1 p.2) {a k : Nat} {q : Str} {doc pm cd ct : Value} {an : Option Addr}
    (hl : (heapK w.params).lookup a = some (fnOb (fnAt k) q .none .none doc pm an cd ct 0)) (hg : fnGood (fnAt k) = true) (hcd : codeIn (heapK w.params) cd q = true) : SpecOk prog w b (lv + 1) a (sInl Cf k) :=
  run_ok S HB G HC hl hg hcd fun args led K h => by
    unfold sInl at h
    split at h
    · rename_i e
      exact ⟨Nat.eq_of_beq_eq_true e, Cf.inv, h⟩
    · exact h.elim
end
section
variable {n : Nat} {key : Nat → Int}
/-- the asked comparisons are in bounds and, answered by the keys, lead to Q -/
noncomputable def Sat (n : Nat) (key : Nat → Int) {α : Type} : KasT α → (α → Prop) → Prop
  | .ret a, Q => Q a
  | .ask i j k, Q => i < n ∧ j < n ∧ Sat n key (k (decide (key i < key j))) Q
theorem Sat.bind {α β : Type} {f : α → KasT β} {Q : β → Prop} : ∀ (t : KasT α), Sat n key t (fun a => Sat n key (f a) Q) → Sat n key (t.bind f) Q
  | .ret _, h => h
  | .ask _ _ k, h => ⟨h.1, h.2.1, Sat.bind (k _) h.2.2⟩
theorem Sat.wp {α : Type} {cmp : Nat → Nat → (Bool → Shared → Prop) → Shared → Prop} {s : Shared} {Q : α → Prop} {G : α → Shared → Prop}
    (hc : ∀ i j C, i < n → j < n → C (decide (key i < key j)) s → cmp i j C s) (hq : ∀ a, Q a → G a s) : ∀ (t : KasT α), Sat n key t Q → t.kasWp cmp G s
  | .ret a, h => hq a h
  | .ask i j k, h => hc i j _ h.1 h.2.1 (Sat.wp hc hq (k _) h.2.2)

noncomputable def Ky (key : Nat → Int) (p : Array Nat) (i : Nat) : Int := key (p.getD i 0)
noncomputable def Srt (key : Nat → Int) (p : Array Nat) (m : Nat) : Prop := ∀ i j, i ≤ j → j < m → Ky key p i ≤ Ky key p j
noncomputable def Non (key : Nat → Int) (p : Array Nat) (m : Nat) : Prop := ∀ i j, i ≤ j → j < m → Ky key p j ≤ Ky key p i
noncomputable def Prm (n : Nat) (p : Array Nat) : Prop := p.toList.Perm (List.range n)
theorem Prm.size {p : Array Nat} (h : Prm n p) : p.size = n := by
  have := h.length_eq
  simpa using this
theorem Prm.lt {p : Array Nat} (h : Prm n p) (hn : 0 < n) (i : Nat) : p.getD i 0 < n := by
  by_cases hi : i < p.size
  · have e : p.getD i 0 = p[i] := by simp [Array.getD, hi]
    rw [e]
    have hm : p[i] ∈ p.toList := by simp
    exact List.mem_range.mp (h.mem_iff.mp hm)
  · have e : p.getD i 0 = 0 := by simp [Array.getD, hi]
    rw [e]; exact hn
theorem getD_of {xs ys : Array Nat} {i j : Nat} (h : xs[i]? = ys[j]?) : xs.getD i 0 = ys.getD j 0 := by
  simp only [Array.getD_eq_getD_getElem?, h]
theorem Ky_bubble {p : Array Nat} {src d : Nat} (hs : src < p.size) (hd : d ≤ src) (k : Nat) :
    Ky key (bubble p src d) k = if k = src - d then Ky key p src else if src - d < k ∧ k ≤ src then Ky key p (k - 1) else Ky key p k := by
  have e := getElem?_bubble hs d hd k
  unfold Ky
  by_cases h1 : k = src - d
  · rw [if_pos h1] at e ⊢; rw [getD_of e]
  · rw [if_neg h1] at e ⊢
    by_cases h2 : src - d < k ∧ k ≤ src
    · rw [if_pos h2] at e ⊢; rw [getD_of e]
    · rw [if_neg h2] at e ⊢; rw [getD_of e]
theorem Ky_rev {p : Array Nat} {i j : Nat} (hj : j ≤ p.size) (k : Nat) : Ky key (kas_rev p i j) k = if i ≤ k ∧ k < j then Ky key p (i + j - 1 - k) else Ky key p k := by
  have e := getElem?_mirror_all (i := i) hj k
  unfold Ky kas_rev
  by_cases h1 : i ≤ k ∧ k < j
  · rw [if_pos h1] at e ⊢; rw [getD_of e]
  · rw [if_neg h1] at e ⊢; rw [getD_of e]
theorem Prm.bubble {p : Array Nat} (h : Prm n p) (src d : Nat) : Prm n (bubble p src d) := (Array.perm_iff_toList_perm.mp (bubble_perm p src d)).trans h
theorem Prm.rev {p : Array Nat} (h : Prm n p) (i j : Nat) : Prm n (kas_rev p i j) := (Array.perm_iff_toList_perm.mp (mirror_perm p i j _)).trans h

theorem sat_asc {Q : Nat → Prop} (hn : 0 < n) {p : Array Nat} (hp : Prm n p) : ∀ (f m : Nat), 1 ≤ m → m + f ≤ n → Srt key p m → (∀ r, m ≤ r → r ≤ m + f → Srt key p r → (r < m + f → Ky key p r < Ky key p (r - 1)) → Q r) → Sat n key (kas_asc p f m) Q
  | 0, m, _, _, hs, h => h m (Nat.le_refl _) (Nat.le_refl _) hs fun hlt => absurd hlt (by omega)
  | f + 1, m, h1, hm, hs, h => by
    refine ⟨hp.lt hn _, hp.lt hn _, ?_⟩
    by_cases hc : key (p.getD m 0) < key (p.getD (m - 1) 0)
    · dsimp only; rw [if_pos (decide_eq_true hc)]
      exact h m (Nat.le_refl _) (by omega) hs fun _ => hc
    · dsimp only; rw [if_neg (fun h9 => hc (of_decide_eq_true h9))]
      have hs' : Srt key p (m + 1) := by
        intro i j hij hj
        by_cases hjm : j < m
        · exact hs i j hij hjm
        · have : j = m := by omega
          subst this
          by_cases hi : i = j
          · subst hi; exact Int.le_refl _
          · have a := hs i (j - 1) (by omega) (by omega)
            have b : Ky key p (j - 1) ≤ Ky key p j := Int.not_lt.mp hc
            exact Int.le_trans a b
      refine sat_asc hn hp f (m + 1) (by omega) (by omega) hs' fun r a b c d => h r (by omega) (by omega) c fun hlt => d (by omega)

theorem sat_desc {Q : Array Nat × Nat × Nat → Prop} (hn : 0 < n) : ∀ (f : Nat) (p : Array Nat) (m q : Nat), Prm n p → q + 1 ≤ m → m + f ≤ n → Non key p m → (∀ i, m - (q + 1) ≤ i → i < m → Ky key p i = Ky key p (m - 1)) →
    (∀ p' m' q', Prm n p' → q' + 1 ≤ m' → m ≤ m' → m' ≤ m + f → Non key p' m' → (∀ i, m' - (q' + 1) ≤ i → i < m' → Ky key p' i = Ky key p' (m' - 1)) → Q (p', m', q')) → Sat n key (kas_desc f p m q) Q
  | 0, p, m, q, hp, hq, hm, hd, he, h => h p m q hp hq (Nat.le_refl _) (by omega) hd he
  | f + 1, p, m, q, hp, hq, hm, hd, he, h => by
    refine ⟨hp.lt hn _, hp.lt hn _, ?_⟩
    have grow : ∀ p' : Array Nat, (∀ k, Ky key p' k = Ky key p k) → Ky key p m ≤ Ky key p (m - 1) → Non key p' (m + 1) := by
      intro p' e hc i j hij hj
      rw [e, e]
      by_cases hjm : j < m
      · exact hd i j hij hjm
      · have : j = m := by omega
        subst this
        by_cases hi : i = j
        · subst hi; exact Int.le_refl _
        · exact Int.le_trans hc (hd i (j - 1) (by omega) (by omega))
    by_cases hc : key (p.getD m 0) < key (p.getD (m - 1) 0)
    · dsimp only; rw [if_pos (decide_eq_true hc)]
      have hc' : Ky key p m < Ky key p (m - 1) := hc
      by_cases hq0 : q > 0
      · rw [if_pos hq0]
        have e : ∀ k, Ky key (kas_rev p (m - (q + 1)) m) k = Ky key p k := by
          intro k
          rw [Ky_rev (by rw [hp.size]; omega)]
          by_cases hk : m - (q + 1) ≤ k ∧ k < m
          · rw [if_pos hk, he _ (by omega) (by omega), he k hk.1 hk.2]
          · rw [if_neg hk]
        refine sat_desc hn f _ (m + 1) 0 (hp.rev _ _) (by omega) (by omega) (grow _ e (Int.le_of_lt hc')) (fun i a b => ?_) fun p' m' q' a b c d e f => h p' m' q' a b (by omega) (by omega) e f
        have : i = m := by omega
        subst this; rfl
      · rw [if_neg hq0]
        refine sat_desc hn f _ (m + 1) 0 hp (by omega) (by omega) (grow _ (fun _ => rfl) (Int.le_of_lt hc')) (fun i a b => ?_) fun p' m' q' a b c d e f => h p' m' q' a b (by omega) (by omega) e f
        have : i = m := by omega
        subst this; rfl
    · dsimp only; rw [if_neg (fun h9 => hc (of_decide_eq_true h9))]
      refine ⟨hp.lt hn _, hp.lt hn _, ?_⟩
      by_cases hc2 : key (p.getD (m - 1) 0) < key (p.getD m 0)
      · dsimp only; rw [if_pos (decide_eq_true hc2)]
        exact h p m q hp hq (Nat.le_refl _) (by omega) hd he
      · dsimp only; rw [if_neg (fun h9 => hc2 (of_decide_eq_true h9))]
        have heq : Ky key p m = Ky key p (m - 1) := Int.le_antisymm (Int.not_lt.mp hc2) (Int.not_lt.mp hc)
        refine sat_desc hn f _ (m + 1) (q + 1) hp (by omega) (by omega) (grow _ (fun _ => rfl) (Int.le_of_eq heq)) (fun i a b => ?_) fun p' m' q' a b c d e f => h p' m' q' a b (by omega) (by omega) e f
        rw [Nat.add_sub_cancel]
        by_cases hi : i = m
        · subst hi; rfl
        · rw [heq]; exact he i (by omega) (by omega)

theorem sat_tail3 {Q : Nat × Array Nat → Prop} (hn : 0 < n) {p : Array Nat} (hp : Prm n p) {m : Nat} (h1 : 1 ≤ m) (hm : m ≤ n) (hd : Non key p m)
    (h : ∀ r p', Prm n p' → m ≤ r → r ≤ n → Srt key p' r → Q (r, p')) : Sat n key (kas_tail3 m n p) Q := by
  refine Sat.bind _ (sat_asc hn (hp.rev 0 m) (n - m) m h1 (by omega) (fun i j hij hj => ?_) fun r a b c _ => h r _ (hp.rev 0 m) a (by omega) c)
  rw [Ky_rev (by rw [hp.size]; omega), Ky_rev (by rw [hp.size]; omega), if_pos (by omega), if_pos (by omega)]
  exact hd _ _ (by omega) (by omega)
theorem sat_descPart {Q : Nat × Array Nat → Prop} (hn : 0 < n) {p : Array Nat} (hp : Prm n p) {m : Nat} (hm : m + 1 ≤ n) (hd : Non key p (m + 1))
    (h : ∀ r p', Prm n p' → 1 ≤ r → r ≤ n → Srt key p' r → Q (r, p')) : Sat n key (kas_descPart m n p) Q := by
  refine Sat.bind _ (sat_desc hn _ p (m + 1) 0 hp (by omega) (by omega) hd (fun i a b => ?_) fun p' m' q' a b c d e f => ?_)
  · have : i = m := by omega
    subst this; rfl
  · dsimp only
    by_cases hq : q' > 0
    · rw [if_pos hq]
      have e2 : ∀ k, Ky key (kas_rev p' (m' - (q' + 1)) m') k = Ky key p' k := by
        intro k
        rw [Ky_rev (by rw [a.size]; omega)]
        by_cases hk : m' - (q' + 1) ≤ k ∧ k < m'
        · rw [if_pos hk, f _ (by omega) (by omega), f k hk.1 hk.2]
        · rw [if_neg hk]
      exact sat_tail3 hn (a.rev _ _) (by omega) (by omega) (fun i j hij hj => by rw [e2, e2]; exact e i j hij hj) fun r p2 x1 x2 x3 x4 => h r p2 x1 (by omega) x3 x4
    · rw [if_neg hq]
      exact sat_tail3 hn a (by omega) (by omega) e fun r p2 x1 x2 x3 x4 => h r p2 x1 (by omega) x3 x4
theorem sat_count {Q : Nat × Array Nat → Prop} (hn : 0 < n) {p : Array Nat} (hp : Prm n p) (h : ∀ r p', Prm n p' → 1 ≤ r → r ≤ n → Srt key p' r → Q (r, p')) : Sat n key (kas_count n p) Q := by
  refine Sat.bind _ (sat_asc hn hp (n - 1) 1 (Nat.le_refl _) (by omega) (fun i j hij hj => ?_) fun r a b c d => ?_)
  · have : i = j := by omega
    subst this; exact Int.le_refl _
  · by_cases hr : r = n
    · rw [if_pos (by simpa using hr)]
      exact h r p hp a (by omega) c
    · rw [if_neg (by simpa using hr)]
      have hlt := d (by omega)
      by_cases h1 : r > 1
      · rw [if_pos h1]
        refine ⟨hp.lt hn _, hp.lt hn _, ?_⟩
        by_cases hc : key (p.getD 0 0) < key (p.getD (r - 1) 0)
        · dsimp only; rw [if_pos (decide_eq_true hc)]
          exact h r p hp a (by omega) c
        · dsimp only; rw [if_neg (fun h9 => hc (of_decide_eq_true h9))]
          have hall : ∀ i, i < r → Ky key p i = Ky key p (r - 1) := fun i hi => Int.le_antisymm (c i (r - 1) (by omega) (by omega)) (Int.le_trans (Int.not_lt.mp hc) (c 0 i (by omega) hi))
          have e2 : ∀ k, Ky key (kas_rev p 0 r) k = Ky key p k := by
            intro k
            rw [Ky_rev (by rw [hp.size]; omega)]
            by_cases hk : 0 ≤ k ∧ k < r
            · rw [if_pos hk, hall _ (by omega), hall k hk.2]
            · rw [if_neg hk]
          refine sat_descPart hn (hp.rev 0 r) (by omega) (fun i j hij hj => ?_) h
          rw [e2, e2]
          by_cases hj2 : j = r
          · subst hj2
            by_cases hi : i = j
            · subst hi; exact Int.le_refl _
            · rw [hall i (by omega)]; exact Int.le_of_lt hlt
          · rw [hall i (by omega), hall j (by omega)]; exact Int.le_refl _
      · rw [if_neg h1]
        have : r = 1 := by omega
        subst this
        refine sat_descPart hn hp (by omega) (fun i j hij hj => ?_) h
        by_cases hi : i = j
        · subst hi; exact Int.le_refl _
        · have e1 : i = 0 := by omega
          have e2 : j = 1 := by omega
          subst e1 e2
          exact Int.le_of_lt hlt
theorem sat_place {Q : Nat → Prop} (hn : 0 < n) {p : Array Nat} (hp : Prm n p) {k : Nat} (hs : Srt key p k) : ∀ (f l r : Nat), l ≤ r → r ≤ k → r - l ≤ f → (∀ i, i < l → Ky key p i ≤ Ky key p k) → (∀ i, r ≤ i → i < k → Ky key p k < Ky key p i) →
    (∀ l', l' ≤ k → (∀ i, i < l' → Ky key p i ≤ Ky key p k) → (∀ i, l' ≤ i → i < k → Ky key p k < Ky key p i) → Q l') → Sat n key (kas_place p k f l r) Q
  | 0, l, r, h1, h2, h3, lo, hi, h => h l (by omega) lo fun i a b => hi i (by omega) b
  | f + 1, l, r, h1, h2, h3, lo, hi, h => by
    show Sat n key (if l ≥ r then .ret l else .ask (p.getD k 0) (p.getD ((l + r) / 2) 0) fun c => if c = true then kas_place p k f l ((l + r) / 2) else kas_place p k f ((l + r) / 2 + 1) r) Q
    by_cases hge : l ≥ r
    · rw [if_pos hge]
      exact h l (by omega) lo fun i a b => hi i (by omega) b
    · rw [if_neg hge]
      refine ⟨hp.lt hn _, hp.lt hn _, ?_⟩
      by_cases hc : key (p.getD k 0) < key (p.getD ((l + r) / 2) 0)
      · dsimp only; rw [if_pos (decide_eq_true hc)]
        refine sat_place hn hp hs f l _ (by omega) (by omega) (by omega) lo (fun i a b => ?_) h
        exact Int.lt_of_lt_of_le hc (hs _ i a b)
      · dsimp only; rw [if_neg (fun h9 => hc (of_decide_eq_true h9))]
        refine sat_place hn hp hs f _ r (by omega) h2 (by omega) (fun i a => ?_) hi h
        exact Int.le_trans (hs i ((l + r) / 2) (by omega) (by omega)) (Int.not_lt.mp hc)
theorem sat_bin {Q : Array Nat → Prop} (hn : 0 < n) : ∀ (f : Nat) (p : Array Nat) (k : Nat), Prm n p → k + f ≤ n → Srt key p k → (∀ p', Prm n p' → Srt key p' (k + f) → Q p') → Sat n key (kas_bin f p k) Q
  | 0, p, k, hp, _, hs, h => h p hp hs
  | f + 1, p, k, hp, hk, hs, h => by
    refine Sat.bind _ (sat_place hn hp hs k 0 k (by omega) (Nat.le_refl _) (by omega) (fun i a => absurd a (by omega)) (fun i a b => absurd b (by omega)) fun l' hl lo hi => ?_)
    refine sat_bin hn f _ (k + 1) (hp.bubble _ _) (by omega) (fun i j hij hj => ?_) fun p' a b => h p' a (by rw [show k + (f + 1) = k + 1 + f by omega]; exact b)
    have hsz : k < p.size := by rw [hp.size]; omega
    rw [Ky_bubble hsz (by omega), Ky_bubble hsz (by omega)]
    have e : k - (k - l') = l' := by omega
    rw [e]
    by_cases hi1 : i = l'
    · rw [if_pos hi1]
      by_cases hj1 : j = l'
      · rw [if_pos hj1]; exact Int.le_refl _
      · rw [if_neg hj1, if_pos (by omega)]
        exact Int.le_of_lt (hi _ (by omega) (by omega))
    · rw [if_neg hi1]
      by_cases hi2 : l' < i ∧ i ≤ k
      · rw [if_pos hi2, if_neg (by omega), if_pos (by omega)]
        exact hs _ _ (by omega) (by omega)
      · rw [if_neg hi2]
        by_cases hj1 : j = l'
        · rw [if_pos hj1]; exact lo i (by omega)
        · rw [if_neg hj1]
          by_cases hj2 : l' < j ∧ j ≤ k
          · rw [if_pos hj2]; exact hs _ _ (by omega) (by omega)
          · rw [if_neg hj2]; exact hs _ _ (by omega) (by omega)
theorem sat_sort {Q : Array Nat → Prop} (hn : 0 < n) (h : ∀ p, Prm n p → Srt key p n → Q p) : Sat n key (kas_sort n) Q := by
  have h0 : Prm n (List.toArray (List.range n)) := by
    unfold Prm
    simp
  refine Sat.bind _ (sat_count hn h0 fun r p a b c d => ?_)
  dsimp only
  by_cases hr : r < n
  · rw [if_pos hr]
    have e : max r 1 = r := by omega
    rw [e]
    exact sat_bin hn _ p r a (by omega) d fun p' x y => h p' x (by rwa [show r + (n - r) = n by omega] at y)
  · rw [if_neg hr]
    have : r = n := by omega
    subst this
    exact h p a d
end
/-- the pair (0, k) that a key gives -/
noncomputable def kz2 (k : Int) : SV := .tup [.int 0, .int k]
section
variable {prog : Program} {w : World} {A : Around} {E : Value → Shared → Prop} {s₀ s : Shared} {L kS Da : Addr} {m : Str → Option Value} {h h' : Heap} {o : Obj}
theorem ktup_of {x : Value} {k : Int} (d : Den h [] (kz2 k) x) : ∃ a o n t u, x = .ref a ∧ h.get? a = some o ∧ o.cls = .type "tuple" ∧ o.data = .seq (List.toArray [.int 0 t, .int k u]) n := by
  cases d with
  | tup it _ ds =>
    cases ds with
    | cons d1 ds =>
      cases ds with
      | cons d2 ds =>
        cases ds; cases d1; cases d2
        obtain ⟨o, e, c, n, q⟩ := it
        exact ⟨_, o, n, _, _, rfl, e, c, q⟩
theorem ktup_lt {x y : Value} {a b : Int} {C : Bool → Shared → Prop} (hx : Den s.heap [] (kz2 a) x) (hy : Den s.heap [] (kz2 b) y) (h : C (decide (a < b)) s) :
    wpAny (model prog w) A (keyLt' (tuples' true) x y) C (fun _ _ => False) s := by
  obtain ⟨x, _, _, _, _, rfl, e1, _, d1⟩ := ktup_of hx
  obtain ⟨y, _, _, _, _, rfl, e2, _, d2⟩ := ktup_of hy
  refine kat_lt e1 d1 e2 d2 (kat_cons (wpAny_eqBool_int (kat_yes (kat_cons (wpAny_eqBool_int ?_)))))
  by_cases e : a = b
  · rw [show (a == b) = true by simpa using e]
    refine kat_yes (kat_nil ?_)
    rwa [show decide (a < b) = false by simp [e]] at h
  · rw [show (a == b) = false by simpa using e]
    exact kat_no (kat_one _ _ (PyProof.Rows.lt_int h))
theorem ktup_firsts : ∀ {kz : List Int} {ks : List Value}, Dens h [] (kz.map kz2) ks → ∃ fs, KatTups h ks fs ∧ fs.length = kz.length ∧ ∀ v ∈ fs, ∃ t, v = .int 0 t
  | [], _, .nil => ⟨[], KatTups.nil, rfl, fun _ h => nomatch h⟩
  | _ :: _, _, .cons a r => by
    obtain ⟨fs, h1, h2, h3⟩ := ktup_firsts r
    obtain ⟨_, _, _, t, _, rfl, e1, e2, e3⟩ := ktup_of a
    exact ⟨.int 0 t :: fs, KatTups.cons e1 e2 e3 rfl h1, congrArg (· + 1) h2, List.forall_mem_cons.mpr ⟨⟨_, rfl⟩, h3⟩⟩
/-- one object of all that stands, to be turned -/
theorem upd_one (ns : h.Ns L m) (e : h.get? kS = some o) (hL : kS ≠ L) : ∃ nn g, Fr e0 L h m ∧ News e0 L h nn ∧ UpdF kS o nn g ∧
    ∀ h' o', News e0 L h' (g o') → h'.get? kS = some o' ∧ ∀ a x, a ≠ kS → a ≠ L → h.get? a = some x → h'.get? a = some x := by
  refine ⟨(kS, o) :: (allNews e0 L h).filter fun p => p.1 != kS, _, ⟨ns, fun b o e => (by rw [e0_get] at e; cases e), Nat.zero_le _⟩, fun p hp => ?_, .head fun p hp => by simpa using (List.mem_filter.mp hp).2, fun h' o' N => ⟨(N _ List.mem_cons_self).1, fun a x n nL ea => ?_⟩⟩
  · rcases List.mem_cons.mp hp with rfl | hp
    · exact ⟨e, hL, e0_get _⟩
    · exact allNews_ok _ (List.mem_filter.mp hp).1
  · exact (N _ (List.mem_cons_of_mem _ (List.mem_filter.mpr ⟨mem_allNews ea nL (e0_get _), by simpa using n⟩))).1
/-- the run's state between the keys: c the cell that the key reads -/
structure KJ (c : Addr) (sc : Int) (s₀ : Shared) (L : Addr) (m : Str → Option Value) (s : Shared) : Prop where
  os : s.os = s₀.os
  gens : s.gens = s₀.gens
  ns : s.heap.Ns L m
  keep : ∀ a o, a ≠ L → a ≠ c → s₀.heap.get? a = some o → s.heap.get? a = some o
  cell : ∃ t, s.heap.IsCell c (some (.int sc t))
structure KI (c : Addr) (sc : Int) (s₀ : Shared) (L : Addr) (m : Str → Option Value) (kS Da : Addr) (e e1 : Nat) (ks : List Value) (kz : List Int) (s : Shared) : Prop where
  j : KJ c sc s₀ L m s
  k : s.heap.get? kS = some (seqObj "list" (List.toArray ks) e)
  d : s.heap.get? Da = some (seqObj "list" #[] e1)
  z : Dens s.heap [] (kz.map kz2) ks
/-- what a key's call leaves -/
noncomputable def KK (c : Addr) (sc : Int) (s : Shared) (k : Int) (v : Value) (s' : Shared) : Prop := s'.os = s.os ∧ s'.gens = s.gens ∧ (∀ a o, a ≠ c → s.heap.get? a = some o → s'.heap.get? a = some o) ∧ (∃ t, s'.heap.IsCell c (some (.int sc t))) ∧ Den s'.heap [] (kz2 k) v
theorem ns_ne {a : Addr} {xs : Array Value} {n : Nat} (ns : h.Ns L m) (e : h.get? a = some (seqObj "list" xs n)) : a ≠ L := fun q => by
  obtain ⟨o, es, ep, eo, d, _⟩ := ns
  rw [← q, e] at eo; cases eo; cases d
theorem cell_nl {a c : Addr} {v : Option Value} {xs : Array Value} {n : Nat} (hc : h.IsCell c v) (e : h.get? a = some (seqObj "list" xs n)) : a ≠ c := fun q => by
  obtain ⟨o, eo, d⟩ := hc
  rw [← q, e] at eo; cases eo; cases d
theorem cell_nf {c : Addr} {v : Option Value} (hc : h.IsCell c v) (ns : h.Ns L m) : c ≠ L := fun q => by
  obtain ⟨o, es, ep, eo, d, _⟩ := ns
  obtain ⟨o', eo', d'⟩ := hc
  rw [q, eo] at eo'; cases eo'; rw [d] at d'; cases d'
/-- objects that are neither tuples nor ranges, turned -/
theorem dens_but {l : List SV} {vs : List Value} {X : List Addr} (q : Soft h X) (k : ∀ c o, c ∉ X → h.get? c = some o → h'.get? c = some o) (d : Dens h [] l vs) : Dens h' [] l vs :=
  d.ext (X := X) (ρ' := []) ⟨fun _ _ e => e, fun c o e n _ => k c o n e, fun _ m _ => (nomatch m), fun c o e n => ⟨o, k c o n e⟩⟩ q
theorem soft_cell {c : Addr} {v : Option Value} (hc : h.IsCell c v) : Soft h [c] := fun a m => by
  obtain ⟨o, eo, d⟩ := hc
  rw [List.mem_singleton.mp m]
  exact ⟨o, eo, fun _ _ _ q => (by rw [d] at q; cases q), fun _ _ q => (by rw [d] at q; cases q)⟩
theorem soft_two {a : Addr} {xs : Array Value} {n : Nat} (ns : h.Ns L m) (e : h.get? a = some (seqObj "list" xs n)) : Soft h [a, L] := fun c hc => by
  rcases List.mem_cons.mp hc with rfl | hc
  · exact ⟨_, e, fun _ _ q => by injection q with q; exact absurd q (by decide), fun _ q => by injection q with q; exact absurd q (by decide)⟩
  · rw [List.mem_singleton.mp hc]
    obtain ⟨o, es, ep, eo, d, _⟩ := ns
    exact ⟨o, eo, fun _ _ _ q => (by rw [d] at q; cases q), fun _ _ q => (by rw [d] at q; cases q)⟩
variable {c : Addr} {sc : Int}
/-- one list turned -/
theorem KJ.turn {a : Addr} {xs : Array Value} {n : Nat} (J : KJ c sc s₀ L m s) (e : s.heap.get? a = some (seqObj "list" xs n)) (ns : h.Ns L m) (ha : s₀.heap.get? a = none) (k : ∀ c x, c ≠ a → c ≠ L → s.heap.get? c = some x → h.get? c = some x) : KJ c sc s₀ L m { s with heap := h } :=
  ⟨J.os, J.gens, ns, fun c o nL nc e => k c o (fun q => by rw [q, ha] at e; cases e) nL (J.keep c o nL nc e), by
    obtain ⟨t, hc⟩ := J.cell
    have n1 := cell_nl hc e
    have n2 := cell_nf hc J.ns
    obtain ⟨o, eo, d⟩ := hc
    exact ⟨t, o, k _ _ n1.symm n2 eo, d⟩⟩
theorem key_keys {e1 : Nat} {f : Value} {Fin : List Value → Nat → Shared → Prop} (hk : s₀.heap.get? kS = none) (hne : Da ≠ kS) : ∀ (r : List Value) (kr : List Int) (ks : List Value) (kz : List Int) (e : Nat) (s : Shared), r.length = kr.length → KI c sc s₀ L m kS Da e e1 ks kz s →
    (∀ (i : Nat) (v : Value) (k : Int), r[i]? = some v → kr[i]? = some k → ∀ s', KJ c sc s₀ L m s' → wpAny (model prog w) A (call f [v]) (KK c sc s' k) (fun _ _ => False) s') →
    (∀ ks' e' s', KI c sc s₀ L m kS Da e' e1 ks' (kz ++ kr) s' → Fin ks' e' s') → KatKeys prog w A e0 L m kS f Fin r ks e s
  | [], [], ks, kz, e, s, _, I, _, fin => KatKeys.nil (fin ks e s (by rw [List.append_nil]; exact I))
  | [], _ :: _, _, _, _, _, hl, _, _, _ => by cases hl
  | _ :: _, [], _, _, _, _, hl, _, _, _ => by cases hl
  | v :: r, k :: kr, ks, kz, e, s, hl, I, turn, fin => by
    refine KatKeys.cons (wpAny_mono (turn 0 v k rfl rfl s I.j) (fun y s' hy => ?_) fun _ _ x => x)
    obtain ⟨q1, q2, q3, q4, q5⟩ := hy
    obtain ⟨t, hc⟩ := I.j.cell
    have nL := cell_nf hc I.j.ns
    have n1 : s'.heap.Ns L m := by
      obtain ⟨o, es, ep, eo, d, r⟩ := I.j.ns
      exact ⟨o, es, ep, q3 _ _ nL.symm eo, d, r⟩
    have ek := q3 _ _ (cell_nl hc I.k) I.k
    have ed := q3 _ _ (cell_nl hc I.d) I.d
    obtain ⟨nn, g, F, N, U, up⟩ := upd_one n1 ek (ns_ne n1 ek)
    refine KatBack.intro F N U fun h2 c2 F2 N2 => ?_
    obtain ⟨u1, u2⟩ := up _ _ N2
    have J1 : KJ c sc s₀ L m s' := ⟨q1.trans I.j.os, q2.trans I.j.gens, n1, fun a o n nc ea => q3 a o nc (I.j.keep a o n nc ea), q4⟩
    refine key_keys hk hne r kr (ks ++ [y]) (kz ++ [k]) c2 _ (Nat.succ.inj hl) ⟨J1.turn ek F2.ns hk u2, u1, u2 _ _ hne (ns_ne n1 ed) ed, ?_⟩
      (fun i v k a b => turn (i + 1) v k a b) fun ks' e' s' h => fin ks' e' s' (by simpa using h)
    rw [List.map_append]
    exact dens_but (soft_two n1 ek) (fun c o n => u2 c o (fun q => n (by simp [q])) fun q => n (by simp [q])) (.append (dens_but (soft_cell hc) (fun c o n => q3 c o (by simpa using n)) I.z) (.cons q5 .nil))
end
section
variable {prog : Program} {w : World} {A : Around} {E : Value → Shared → Prop} {s₀ s : Shared} {L kS Da : Addr} {m : Str → Option Value}
variable {c : Addr} {sc : Int}
theorem ks_fin {e e1 : Nat} {ks out : List Value} {C : Shared → Prop} (J : KJ c sc s₀ L m s) (ek : s.heap.get? kS = some (seqObj "list" (List.toArray ks) e)) (ed : s.heap.get? Da = some (seqObj "list" #[] e1)) (hk : s₀.heap.get? kS = none) (hd : s₀.heap.get? Da = none) (ne : Da ≠ kS)
    (h : ∀ s' n, KJ c sc s₀ L m s' → s'.heap.get? Da = some (PySem.W.listOf (List.toArray out) n) → C s') : KatFin e0 L m kS Da ks e e1 out C s := by
  obtain ⟨nn, g, F, N, U, up⟩ := upd_one J.ns ek (ns_ne J.ns ek)
  refine KatFin.intro F N U fun h2 _ F2 N2 => ?_
  obtain ⟨_, u2⟩ := up _ _ N2
  have J2 := J.turn ek F2.ns hk u2
  have ed2 := u2 _ _ ne (ns_ne J.ns ed) ed
  obtain ⟨nn, g, F, N, U, up⟩ := upd_one F2.ns ed2 (ns_ne F2.ns ed2)
  refine KasFin.intro F N U fun h3 n F3 N3 => ?_
  obtain ⟨v1, v2⟩ := up _ _ N3
  exact h _ n (J2.turn ed2 F3.ns hd v2) v1
variable {l : Addr} {vs : List Value} {kz : List Int} {f : Value} {kw : List (Str × Value)} {Q : Value → Shared → Prop}
theorem sort_ge2 (ns : s.heap.Ns L m) (hc : ∃ t, s.heap.IsCell c (some (.int sc t))) (hl : s.heap.IsList l vs.toArray) (h2 : 2 ≤ vs.length) (h64 : vs.length < 64) (hlen : kz.length = vs.length)
    (ha1 : argsOk "sorted" ⟨[.ref l], kw⟩) (ha2 : ∀ x, argsOk "list.sort" ⟨[.ref x], kw⟩) (ht : ∀ x, Builtin.«list.sort» ⟨[.ref x], kw⟩ = ksk_tree x f false)
    (turn : ∀ (i : Nat) (v : Value) (k : Int), vs[i]? = some v → kz[i]? = some k → ∀ s', KJ c sc s L m s' → wpAny (model prog w) A.in1.in1 (call f [v]) (KK c sc s' k) (fun _ _ => False) s')
    (done : ∀ D p n s', Prm vs.length p → Srt (fun i => kz.getD i 0) p vs.length → s.heap.get? D = none → KJ c sc s L m s' → s'.heap.get? D = some (PySem.W.listOf (List.toArray (p.toList.map fun i => vs.getD i .none)) n) → Q (.ref D) s') :
    wpAny (model prog w) A (call (.builtin "sorted") [.ref l] kw) Q E s := by
  have F : Fr e0 L s.heap m := ⟨ns, fun b o e => (by rw [e0_get] at e; cases e), Nat.zero_le _⟩
  refine kat_sortedK F (allNews_ok (b := e0)) hl h2 h64 ha1 ha2 ht fun D kS e1 h' F' N' lD hq => ?_
  have nk := N' _ List.mem_cons_self
  have nd := N' _ (List.mem_cons_of_mem _ List.mem_cons_self)
  have fD := fresh_of nd.2.1 nd.2.2 hq
  have fk := fresh_of nk.2.1 nk.2.2 fun p hp => Nat.lt_trans (hq p hp) lD
  have J0 : KJ c sc s L m { s with heap := h' } := ⟨rfl, rfl, F'.ns, fun a o n _ e => all_kept F F' N' (fun p hp => List.mem_cons_of_mem _ (List.mem_cons_of_mem _ hp)) a o n e, by
    obtain ⟨t, x⟩ := hc
    have n2 := cell_nf x ns
    obtain ⟨o, eo, d⟩ := x
    exact ⟨t, o, all_kept F F' N' (fun p hp => List.mem_cons_of_mem _ (List.mem_cons_of_mem _ hp)) _ _ n2 eo, d⟩⟩
  refine key_keys fk (Nat.ne_of_lt lD) vs kz [] [] 0 _ hlen.symm ⟨J0, nk.1, nd.1, .nil⟩ turn fun ks e s' I => ?_
  have T : Dens s'.heap [] (kz.map kz2) ks := I.z
  have hks : ks.length = vs.length := by rw [T.length, List.length_map, hlen]
  obtain ⟨fs, hf1, hf2, hf3⟩ := ktup_firsts T
  refine kat_kind hf1 (by rw [hf2, hlen]; omega) (T := .type "int") (fun v hv => ?_) rfl ?_
  · obtain ⟨t, rfl⟩ := hf3 v hv
    exact Looks.of_pure rfl
  · show (kas_sort vs.length).kasWp (kas_ask prog w A.in1.in1 (tuples' true) ks) (fun p s3 => KatFin e0 L m kS D ks e e1 (p.toList.map fun i => vs.getD i Value.none) (fun s4 => Q (.ref D) s4) s3) s'
    refine Sat.wp (n := vs.length) (key := fun i => kz.getD i 0) (Q := fun p => Prm vs.length p ∧ Srt (fun i => kz.getD i 0) p vs.length) (fun i j C hi hj hC => ?_) (fun p hp => ?_) _ (sat_sort (by omega) fun p a b => ⟨a, b⟩)
    · have at' : ∀ i, i < vs.length → Den s'.heap [] (kz2 (kz.getD i 0)) (ks.getD i .none) := fun i hi => by
        obtain ⟨v, e1, d⟩ := T.at (i := i) (x := kz2 (kz.getD i 0)) (by rw [atN_eq, List.getElem?_map, List.getD_eq_getElem?_getD, List.getElem?_eq_getElem (by omega)]; rfl)
        rw [show ks.getD i Value.none = v by rw [List.getD_eq_getElem?_getD, e1]; rfl]; exact d
      exact ktup_lt (at' i hi) (at' j hj) hC
    · exact ks_fin I.j I.k I.d fk fD (Nat.ne_of_lt lD) fun s4 n J e => done D p n s4 hp.1 hp.2 fD J e

theorem lt2_end {a : Addr} {e e1 : Nat} {ks : List Value} {P : PySem.Fin → Shared → Prop} (hl : ks.length = vs.length) (h2 : vs.length < 2) (h : KatFin e0 L m kS a ks e e1 vs (fun s3 => P (.done (.ret .none)) s3) s) :
    wpAny (model prog w) A (ksk_end a false (List.toArray vs) e1 (.ref kS) (List.toArray ks)) P E s := by
  have lt : (List.toArray vs).size < 2 := by rw [List.size_toArray]; exact h2
  unfold ksk_end
  dsimp only
  rw [if_neg Bool.false_ne_true, if_pos lt]
  refine wpAny_bind (wpAny_pure ?_)
  rw [if_pos lt, if_neg Bool.false_ne_true, StateT.run_pure]
  refine wpAny_bind (wpAny_pure ?_)
  refine kat_tail (out := vs) (ks := ks) (st := SortSt.mk' general' ((List.toArray ks).zip (List.toArray vs)) #[] 7 none) ?_ (by omega) (by omega) rfl h
  show Array.map (fun q : PyProof.Rows.Keyed => q.2) ((List.toArray ks).zip (List.toArray vs)) = _
  apply Array.toList_inj.mp
  rw [Array.toList_map, ksk_zip, List.map_snd_zip (Nat.le_of_eq hl.symm)]
theorem lt2_rest {a : Addr} {e1 : Nat} {P : PySem.Fin → Shared → Prop} (h2 : vs.length < 2) (hk : s.heap.get? kS = some (seqObj "list" #[] 0))
    (h : KatKeys prog w A e0 L m kS f (fun ks e s' => KatFin e0 L m kS a ks e e1 vs (fun s4 => P (.done (.ret .none)) s4) s') vs [] 0 s) :
    wpAny (model prog w) A (ksk_rest a f false (List.toArray vs) e1 (.ref kS)) P E s := by
  unfold ksk_rest
  refine wpAny_bind (wpAny_rule ?_)
  first
    | rw [List.forIn_toArray]
    | (rw [← Array.forIn_toList]; simp only [List.toList_toArray])
    | rw [← Array.forIn_toList]
  refine wpAny_bind (wpAny_mono (kat_fold (n := vs.length) (by omega) (fun x ks e s' C hz hx => ?_) vs [] 0 s (Nat.zero_add _) hk h) (fun _ s' hd => ?_) fun _ _ x => x)
  · refine wpAny_bind (wpAny_attempt (wpAny_mono hx (fun k s'' hk => ?_) fun _ _ hF => hF.elim))
    obtain ⟨nn, g, F', N', U, c⟩ := hk
    obtain ⟨pre, post, e0, hg, x1, x2⟩ := U.split
    rw [e0] at N'
    have nk := N' (kS, seqObj "list" (List.toArray ks) e) (List.mem_append_right _ (.head _))
    have s1 := Heap.SameBut.update s''.heap kS (Obj.mapSeq (·.push k))
    have ea : (List.toArray ks).push k = List.toArray (ks ++ [k]) := by simp
    have hup := get?_update_seq nk.1 (·.push k)
    rw [ea] at hup
    dsimp only
    refine wpAny_bind (listUpdate_at nk.1 rfl ?_ (by rw [List.size_toArray, sizeLine_eq]; omega) (Nat.le_trans (Nat.le_of_eq (Array.size_push ..)) (by rw [List.size_toArray, sizeLine_eq]; omega)))
    exact wpAny_pure ⟨rfl, k, _, hup, c _ _ (kas_fr F' s1 nk.2.1 nk.2.2) (by rw [hg]; exact news_set N' x1 x2 s1 hup)⟩
  · obtain ⟨ks, e, hk', hl, fin⟩ := hd
    exact wpAny_bind (listItems_at hk' rfl (lt2_end hl h2 fin))
theorem lt2_tree {a : Addr} {n : Nat} {P : PySem.Fin → Shared → Prop} (h2 : vs.length < 2) (ns : s.heap.Ns L m) (ho : s.heap.get? a = some (seqObj "list" (List.toArray vs) n))
    (h : ∀ kS e1 s', s'.os = s.os → s'.gens = s.gens → s'.heap.Ns L m → s.heap.get? kS = none → a ≠ kS → s'.heap.get? kS = some (seqObj "list" #[] 0) → s'.heap.get? a = some (seqObj "list" #[] e1) → (∀ c o, c ≠ a → s.heap.get? c = some o → s'.heap.get? c = some o) →
      KatKeys prog w A e0 L m kS f (fun ks e s' => KatFin e0 L m kS a ks e e1 vs (fun s4 => P (.done (.ret .none)) s4) s') vs [] 0 s') :
    wpAny (model prog w) A (ksk_tree a f false) P E s := by
  have ha : a < s.heap.objs.size := Heap.lt_size ho
  have s1 := Heap.SameBut.update s.heap a (Obj.mapSeq fun _ => (#[] : Array Value))
  have ho1 := get?_update_seq ho fun _ => (#[] : Array Value)
  have n1 := ns.sameBut s1 (ns_ne ns ho).symm
  have hs : (s.heap.update a (Obj.mapSeq fun _ => (#[] : Array Value))).objs.size = s.heap.objs.size := Heap.size_update ..
  generalize hH : s.heap.update a (Obj.mapSeq fun _ => (#[] : Array Value)) = H at s1 ho1 n1 hs
  have hkS : (H.push (seqObj "tuple" (List.toArray vs) 0)).objs.size = s.heap.objs.size + 1 := by rw [size_push', hs]
  unfold ksk_tree
  refine wpAny_bind (listItems_at ho rfl ?_)
  refine wpAny_bind (listUpdate_at ho rfl ?_ (by rw [List.size_toArray, sizeLine_eq]; omega) (Nat.zero_le _))
  rw [hH]
  refine wpAny_bind (seqEpoch_at ho1 rfl ?_)
  refine wpAny_bind (wpAny_newTuple ?_ (by show vs.length ≤ _; rw [sizeLine_eq]; omega))
  refine wpAny_bind (wpAny_newList ?_ (Nat.zero_le _))
  refine wpAny_holding (lt2_rest h2 (Heap.get?_push_size _ rfl) (h (H.push (seqObj "tuple" (List.toArray vs) 0)).objs.size _ _ rfl rfl ((n1.push _).push _) (Heap.get?_none_of_le (Nat.le_trans (Nat.le_succ _) (Nat.le_of_eq hkS.symm))) (Nat.ne_of_lt (Nat.lt_of_lt_of_le ha (Nat.le_trans (Nat.le_succ _) (Nat.le_of_eq hkS.symm)))) (Heap.get?_push_size _ rfl) (Heap.get?_push_of_some _ (Heap.get?_push_of_some _ ho1)) fun c o n e => Heap.get?_push_of_some _ (Heap.get?_push_of_some _ ((s1.2 c n).trans e))))
end
section
variable {prog : Program} {w : World} {A : Around} {E : Value → Shared → Prop} {s : Shared} {L : Addr} {m : Str → Option Value} {l : Addr} {vs : List Value} {kz : List Int} {f : Value} {kw : List (Str × Value)} {Q : Value → Shared → Prop} {c : Addr} {sc : Int}
theorem range_pick {α : Type} (d : α) : ∀ (hs : List α), (List.range hs.length).map (fun i => hs.getD i d) = hs := fun hs => by
  apply List.ext_getElem
  · simp
  · intro i h1 h2
    simp [h2]
theorem sort_lt2 (ns : s.heap.Ns L m) (hc : ∃ t, s.heap.IsCell c (some (.int sc t))) (hl : s.heap.IsList l vs.toArray) (h2 : vs.length < 2) (hlen : kz.length = vs.length)
    (ha1 : argsOk "sorted" ⟨[.ref l], kw⟩) (ha2 : ∀ x, argsOk "list.sort" ⟨[.ref x], kw⟩) (ht : ∀ x, Builtin.«list.sort» ⟨[.ref x], kw⟩ = ksk_tree x f false)
    (turn : ∀ (i : Nat) (v : Value) (k : Int), vs[i]? = some v → kz[i]? = some k → ∀ s', KJ c sc s L m s' → wpAny (model prog w) A.in1.in1 (call f [v]) (KK c sc s' k) (fun _ _ => False) s')
    (done : ∀ D n s', s.heap.get? D = none → KJ c sc s L m s' → s'.heap.get? D = some (PySem.W.listOf (List.toArray vs) n) → Q (.ref D) s') :
    wpAny (model prog w) A (call (.builtin "sorted") [.ref l] kw) Q E s := by
  refine call_function_entry_kw kind_sorted plain_sorted entry_sorted ha1 ?_
  unfold Builtin.«sorted»
  refine wpAny_bind (m := checkCount "sorted" 1 1 _) (wpAny_pure ?_)
  refine wpAny_bind (collect_list hl ?_ (by show vs.length ≤ _; rw [sizeLine_eq]; omega))
  refine wpAny_bind (wpAny_newList ?_ (by show vs.length ≤ _; rw [sizeLine_eq]; omega))
  generalize hG : (s.heap.push (seqObj "list" #[] 0)).update s.heap.objs.size (Obj.mapSeq (· ++ List.toArray vs)) = G
  have hsz : G.objs.size = s.heap.objs.size + 1 := by rw [← hG, Heap.size_update, size_push']
  have hoL : (G.push (seqObj "list" (List.toArray vs) 0)).get? G.objs.size = some (seqObj "list" (List.toArray vs) 0) := Heap.get?_push_size _ rfl
  have keep : ∀ b o, s.heap.get? b = some o → (G.push (seqObj "list" (List.toArray vs) 0)).get? b = some o := fun b o q => by
    have hlt : b < s.heap.objs.size := Heap.lt_size q
    rw [Heap.get?_push_ne _ _ _ (by rw [hsz]; exact Nat.ne_of_lt (Nat.lt_succ_of_lt hlt)), ← hG, Heap.get?_update_ne _ _ _ _ (Nat.ne_of_lt hlt), Heap.get?_push_ne _ _ _ (Nat.ne_of_lt hlt)]
    exact q
  have fD : s.heap.get? G.objs.size = none := Heap.get?_none_of_le (Nat.le_trans (Nat.le_succ _) (Nat.le_of_eq hsz.symm))
  refine wpAny_bind (wpAny_holding (wpAny_call_entry_kw slot_list_sort ⟨_, hoL, rfl⟩ entry_list_sort ?_ (ha2 _)))
  show wpAny (model prog w) A.in1.in1 (Builtin.«list.sort» ⟨[.ref G.objs.size], kw⟩) _ _ _
  rw [ht]
  refine lt2_tree (s := { s with heap := G.push (seqObj "list" (List.toArray vs) 0) }) (vs := vs) h2 (ns.keeps keep) hoL fun kS e1 s1 q1 q2 q3 q4 q5 q6 q7 q8 => ?_
  have fk : s.heap.get? kS = none := by
    cases e : s.heap.get? kS with
    | none => rfl
    | some o => exact absurd (q4.symm.trans (keep _ _ e)) nofun
  have J1 : KJ c sc s L m s1 := ⟨q1, q2, q3, fun a o n _ e => q8 a o (fun q => by rw [q, fD] at e; cases e) (keep _ _ e), by
    obtain ⟨t, o, eo, d⟩ := hc
    exact ⟨t, o, q8 _ _ (fun q => by rw [q, fD] at eo; cases eo) (keep _ _ eo), d⟩⟩
  refine key_keys fk q5 vs kz [] [] 0 _ hlen.symm ⟨J1, q6, q7, .nil⟩ turn fun ks e s' I => ?_
  refine ks_fin I.j I.k I.d fk fD q5 fun s4 n J e => ⟨_, rfl, ?_⟩
  exact wpAny_pure ⟨_, rfl, done _ n s4 fD J e⟩
theorem sort_key (ns : s.heap.Ns L m) (hc : ∃ t, s.heap.IsCell c (some (.int sc t))) (hl : s.heap.IsList l vs.toArray) (h64 : vs.length < 64) (hlen : kz.length = vs.length)
    (ha1 : argsOk "sorted" ⟨[.ref l], kw⟩) (ha2 : ∀ x, argsOk "list.sort" ⟨[.ref x], kw⟩) (ht : ∀ x, Builtin.«list.sort» ⟨[.ref x], kw⟩ = ksk_tree x f false)
    (turn : ∀ (i : Nat) (v : Value) (k : Int), vs[i]? = some v → kz[i]? = some k → ∀ s', KJ c sc s L m s' → wpAny (model prog w) A.in1.in1 (call f [v]) (KK c sc s' k) (fun _ _ => False) s')
    (done : ∀ D p n s', Prm vs.length p → Srt (fun i => kz.getD i 0) p vs.length → s.heap.get? D = none → KJ c sc s L m s' → s'.heap.get? D = some (PySem.W.listOf (List.toArray (p.toList.map fun i => vs.getD i .none)) n) → Q (.ref D) s') :
    wpAny (model prog w) A (call (.builtin "sorted") [.ref l] kw) Q E s := by
  by_cases h2 : vs.length < 2
  · refine sort_lt2 ns hc hl h2 hlen ha1 ha2 ht turn fun D n s' f J e => done D (List.range vs.length).toArray n s' (.refl _) (fun i j hij hj => ?_) f J (by rw [range_pick]; exact e)
    rw [show i = j by omega]; exact Int.le_refl _
  · exact sort_ge2 ns hc hl (by omega) h64 hlen ha1 ha2 ht turn done
end
set_option maxRecDepth 100000
noncomputable def xsc : Str := Str.ofString "scale"
noncomputable def xpl : Str := Str.ofString "place"
noncomputable def xit : Str := Str.ofString "item"
noncomputable def fnScope : Stmt → Scope
  | .FunctionDef _ _ _ _ _ _ sc _ _ _ => sc
  | _ => default
noncomputable def fnArgs : Stmt → Arguments
  | .FunctionDef _ a _ _ _ _ _ _ _ _ => a
  | _ => default
noncomputable def fnPos : Stmt → Pos
  | .FunctionDef _ _ _ _ _ _ _ _ _ p => p
  | _ => default
noncomputable def placeS : Stmt := stAt (fnBody (fnAt 39)) 2
theorem placeE : placeS = .FunctionDef xpl (fnArgs placeS) (fnBody placeS) [] none [] (fnScope placeS) none xpl (fnPos placeS) := by kernel_rfl
theorem placeN : (fnScope placeS).names = [(xit, .local), (xsc, .free)] := by kernel_rfl
noncomputable def ascP (hs : List Int) (done : List (Int × Int)) (z : Int) : Prop := ∃ ds rest, hs = ds ++ rest ∧ done = ds.map half ∧ (z = 1 ∨ z = 2) ∧ ∀ x ∈ ds, z % rd x 2 = 0
noncomputable def iAsc (hs : List Int) : Inv := .frs Int (fun s z => { s with loc := put s.loc xsc (.int z) }) (fun _ done z => ascP hs done z)
theorem vPlace (x sc : Int) (K : KF) : (brn (decide ((half x).snd = (0 : Int))) (K (.ret (SV.tup [SV.int (half x).fst, SV.int (0 : Int)])) ⟨[(xit, fr (half x)), (xsc, .int sc)], []⟩) ((half x).snd ≠ (0 : Int) ∧ IntMulOk (half x).fst (sc.fdiv (half x).snd) ∧ K (.ret (SV.tup [SV.int (0 : Int), SV.int ((half x).fst * sc.fdiv (half x).snd)])) ⟨[(xit, fr (half x)), (xsc, .int sc)], []⟩)) → bodyW (c0 [] []) (fnScope placeS).names (fnBody placeS) ⟨[(xit, fr (half x)), (xsc, .int sc)], []⟩ K := Eq.mp (by kernel_rfl)
theorem rd2_cases (x : Int) : rd x 2 = 1 ∨ rd x 2 = 2 := by
  have h1 := rd2_pos x
  have h2 := rd2_le x
  omega
section
variable {prog : Program} {w : World} {b : Heap} {A : Around} {f c : Addr} {qual : Str} {doc pm ctv v : Value} {c' : Addr} {x sc : Int} {t : Tok} {s : Shared}
/-- the key called: place(item) with its cell -/
theorem place_call (S : Sta prog w b) (hA : AOk 1 A) (stays : ∀ a o, b.get? a = some o → s.heap.get? a = some o) (ho : s.heap.get? f = some (fnMade xpl qual (fnArgs placeS) (fnBody placeS) (fnScope placeS) [(xsc, c)] doc pm c' ctv)) (hcd : s.heap.CodeRec (.ref c') qual)
    (hc : s.heap.IsCell c (some (.int sc t))) (hb : b.get? c = none) (hs : sc = 1 ∨ sc = 2) (d : Den s.heap [] (fr (half x)) v) : wpAny (model prog w) A (call (.ref f) [v]) (KK c sc s (rn x 2 * sc.fdiv (rd x 2))) F0 s := by
  have lim := S.nolimit.keeps stays
  refine wpAny_call (codeAny_call_def (fd := fnX xpl qual (fnArgs placeS) (fnBody placeS) (fnScope placeS) [(xsc, c)] .none .none doc pm none (.ref c') ctv) (body := fnBody placeS) (binds := [(xit, v)]) (by have := hA.2.1; omega) ho rfl lim hcd rfl (.of_eq (by kernel_rfl)) ?_ ?_ (fun h₁ hns keep => ?_) (by kernel_rfl) (by kernel_rfl) (by kernel_rfl))
  · show ∀ p ∈ (fnScope placeS).names, p.2 ≠ .cell
    rw [placeN]; decide
  · show ∀ p ∈ [(xit, v)], (fnScope placeS).names.lookup p.1 = some .local
    rw [placeN]; intro p hp; rw [List.mem_singleton.mp hp]; rfl
  generalize hE : callEnv (fnX xpl qual (fnArgs placeS) (fnBody placeS) (fnScope placeS) [(xsc, c)] .none .none doc pm none (.ref c') ctv) s.heap.objs.size f = env
  have e1 : env.scope = fnScope placeS := by rw [← hE]; rfl
  have e2 : env.locals = s.heap.objs.size := by rw [← hE]; rfl
  have e3 : env.cells = [(xsc, c)] := by rw [← hE]; rfl
  have e4 : env.globals = mainGlobals := by rw [← hE]; rfl
  have e5 : env.builtins = builtinsNs := by rw [← hE]; rfl
  have nx : s.heap.get? s.heap.objs.size = none := get_size _
  have bnone : ∀ a, s.heap.get? a = none → b.get? a = none := fun a e => by
    cases e' : b.get? a with
    | none => rfl
    | some o => rw [stays a o e'] at e; cases e
  have lk : ∀ y, env.kindOf y = [(xit, .local), (xsc, .free)].lookup y := fun y => by show env.scope.names.lookup y = _; rw [e1, placeN]
  have O : EnvOk env := ⟨by rw [e1]; kernel_rfl, e4, e5, by rw [e1]; kernel_rfl, fun y hy => by
    rw [lk] at hy
    have := lookup_mem hy
    simp at this⟩
  have x0 : Ext [] [] s.heap [] h₁ := .grow keep
  have R : Rel prog w b env [] ⟨[(xit, fr (half x)), (xsc, .int sc)], []⟩ h₁ := by
    refine ⟨⟨rfl, fun i _ _ e => (by cases i <;> cases e), fun i _ _ e => (by cases i <;> cases e), fun _ m => nomatch m⟩, fun a o e => keep a o (stays a o e), ⟨_, e2 ▸ hns, fun y sv e => ?_⟩, by rw [e2]; exact bnone _ nx, fun a ha => ?_, fun _ _ m => (nomatch m), fun y z a hy hz => ?_⟩
    · unfold get at e
      cases q : strEq xit y with
      | true =>
        rw [q] at e; cases e
        obtain rfl := strEq_iff.mp q
        exact ⟨v, d.ext x0 (fun _ m => nomatch m), .inl ⟨by rw [lk]; rfl, rfl⟩⟩
      | false =>
        rw [q] at e
        unfold get at e
        cases q : strEq xsc y with
        | true =>
          rw [q] at e; cases e
          obtain rfl := strEq_iff.mp q
          obtain ⟨o, eo, r⟩ := hc
          exact ⟨_, .int sc t, .inr ⟨.inr (by rw [lk]; rfl), c, by rw [e3]; rfl, o, keep _ _ eo, r⟩⟩
        | false => rw [q] at e; cases e
    · rw [e3] at ha
      obtain ⟨o, eo, r⟩ := hc
      rw [List.mem_singleton.mp ha]
      exact ⟨hb, _, o, keep _ _ eo, r⟩
    · rw [e3] at hy hz
      have h1 := lookup_mem hy
      have h2 := lookup_mem hz
      rw [(Prod.mk.inj (List.mem_singleton.mp h1)).1, (Prod.mk.inj (List.mem_singleton.mp h2)).1]
  have p1 := rd2_pos x
  have p2 := rd2_cases x
  have p3 : 0 ≤ sc.fdiv (rd x 2) ∧ sc.fdiv (rd x 2) ≤ 1000 := by
    rcases p2 with e | e <;> rcases hs with rfl | rfl <;> rw [e] <;> decide
  have hv := vPlace x sc (fun f s => f = .ret (kz2 (rn x 2 * sc.fdiv (rd x 2))) ∧ s.led = [] ∧ get s.loc xsc = some (.int sc)) (brn_f (Int.ne_of_gt p1) ⟨Int.ne_of_gt p1, ok_small p3.1 p3.2, rfl, rfl, rfl⟩)
  rw [← e1] at hv
  refine wpAny_mono (exs_ok (bun_ok (lv := 0) (Cf := c0 [] []) (fun _ _ h => h.elim) S (glob_ok w) hc0 30) O (hA.weak.deeper (by rw [e1]; kernel_rfl) (by rw [e1]; kernel_rfl) e5 e4) R hv) (fun fl s' hf => ?_) fun _ _ x => x.elim
  obtain ⟨ρ', f', s₂, M, dd, rfl, el, eg⟩ := hf
  cases dd with
  | ret dv =>
  have hρ : ρ' = [] := List.eq_nil_of_length_eq_zero (by rw [M.rel.led.len, el]; rfl)
  rw [hρ] at dv
  refine ⟨M.os, M.gens, fun a o n e => M.ext.keep a o (keep a o e) (fun m => ?_) (fun m => nomatch m), ?_, dv⟩
  · rcases List.mem_cons.mp m with rfl | m
    · rw [e2, nx] at e; cases e
    · rw [e3] at m; exact n (List.mem_singleton.mp m)
  · obtain ⟨m, _, hh⟩ := M.rel.frame
    obtain ⟨v', d', k⟩ := hh xsc _ eg
    cases d'
    rcases k with ⟨k, _⟩ | ⟨_, c₂, hc₂, hi⟩
    · rw [lk] at k; exact absurd k (by decide)
    · rw [e3] at hc₂
      cases hc₂
      exact ⟨_, hi⟩
end
set_option maxRecDepth 100000
theorem vAsc (hs : List Int) (K : KF) : ((∃ a, ascP hs [] a ∧ [SO.list (SL.frs (List.map half hs)), SO.tab true] = [SO.list (SL.frs (List.map half hs)), SO.tab true] ∧ some (SV.own 0) = some (SV.own 0) ∧ some (SV.int 1) = some (SV.int a) ∧ True) ∧ (∀ (_ : Int), some (SO.list (SL.frs (List.map half hs))) = some (SO.list (SL.frs (List.map half hs)))) ∧
    (∀ (done : List (Int × Int)) (b : Int × Int) (rest : List (Int × Int)) (a : Int), List.map half hs = done ++ b :: rest → ascP hs done a → brn (decide (0 < b.snd)) (b.snd ≠ 0 ∧ brn (!decide (a.fmod b.snd = 0)) (IntMulOk a b.snd ∧ ∃ a', ascP hs (done ++ [b]) a' ∧ [SO.list (SL.frs (List.map half hs)), SO.tab true] = [SO.list (SL.frs (List.map half hs)), SO.tab true] ∧ some (SV.own 0) = some (SV.own 0) ∧ some (SV.int (a * b.snd)) = some (SV.int a') ∧ True)
      (∃ a', ascP hs (done ++ [b]) a' ∧ [SO.list (SL.frs (List.map half hs)), SO.tab true] = [SO.list (SL.frs (List.map half hs)), SO.tab true] ∧ some (SV.own 0) = some (SV.own 0) ∧ some (SV.int a) = some (SV.int a') ∧ True)) (∃ a', ascP hs (done ++ [b]) a' ∧ [SO.list (SL.frs (List.map half hs)), SO.tab true] = [SO.list (SL.frs (List.map half hs)), SO.tab true] ∧ some (SV.own 0) = some (SV.own 0) ∧ some (SV.int a) = some (SV.int a') ∧ True)) ∧
    ∀ a, ascP hs (List.map half hs) a → K Fl.next ⟨[(Str.ofString "items", SV.own 0), (xsc, SV.int a)], [SO.list (SL.frs (List.map half hs)), SO.tab true]⟩) →
  (bun (c0 [] [(167, iAsc hs)]) 30).ex (fnSc (fnAt 39)) (stAt (fnBody (fnAt 39)) 0) ⟨[(Str.ofString "items", .own 0)], [.list (.frs (hs.map half)), .tab true]⟩ fun f s' => match f with | .next => (bun (c0 [] [(167, iAsc hs)]) 30).ex (fnSc (fnAt 39)) (stAt (fnBody (fnAt 39)) 1) s' K | _ => False := Eq.mp (by kernel_rfl)
theorem asc_loop (hs : List Int) {K : KF} (h : ∀ a, (a = 1 ∨ a = 2) → (∀ x ∈ hs, a % rd x 2 = 0) → K Fl.next ⟨[(Str.ofString "items", SV.own 0), (xsc, SV.int a)], [SO.list (SL.frs (List.map half hs)), SO.tab true]⟩) :
  (bun (c0 [] [(167, iAsc hs)]) 30).ex (fnSc (fnAt 39)) (stAt (fnBody (fnAt 39)) 0) ⟨[(Str.ofString "items", .own 0)], [.list (.frs (hs.map half)), .tab true]⟩ fun f s' => match f with | .next => (bun (c0 [] [(167, iAsc hs)]) 30).ex (fnSc (fnAt 39)) (stAt (fnBody (fnAt 39)) 1) s' K | _ => False := by
  refine vAsc hs K ⟨⟨1, ⟨[], hs, rfl, rfl, .inl rfl, fun _ h => nomatch h⟩, rfl, rfl, rfl, trivial⟩, fun _ => rfl, fun done b rest a e ⟨ds, rs, e1, e2, e3, e4⟩ => ?_, fun a ⟨ds, rs, e1, e2, e3, e4⟩ => h a e3 (map_half_inj e2 ▸ e4)⟩
  obtain ⟨ds', x, rs', e5, e6, rfl⟩ := half_cons e
  obtain rfl := map_half_inj (e2.symm.trans e6)
  have p1 := rd2_pos x
  have step : ∀ z, (z = 2 ∨ z = a) → z % rd x 2 = 0 → ascP hs (done ++ [half x]) z := fun z h1 h2 => by
    refine ⟨ds ++ [x], rs', by rw [e5]; simp, by rw [e6]; simp, ?_, fun y hy => ?_⟩
    · rcases h1 with rfl | rfl
      · exact .inr rfl
      · exact e3
    · rcases List.mem_append.mp hy with hy | hy
      · rcases h1 with rfl | rfl
        · rcases rd2_cases y with e | e <;> rw [e] <;> decide
        · exact e4 y hy
      · rw [List.mem_singleton.mp hy]; exact h2
  refine brn_t p1 ⟨Int.ne_of_gt p1, ?_⟩
  show brn (!decide (a.fmod (rd x 2) = 0)) _ _
  have em : a.fmod (rd x 2) = a % rd x 2 := Int.fmod_eq_emod_of_nonneg _ (Int.le_of_lt p1)
  by_cases hz : a.fmod (rd x 2) = 0
  · rw [decide_eq_true hz]
    exact ⟨a, step a (.inr rfl) (em ▸ hz), rfl, rfl, rfl, trivial⟩
  · rw [decide_eq_false hz]
    have h2 : a = 1 ∧ rd x 2 = 2 := by
      rw [em] at hz
      rcases rd2_cases x with e | e <;> rcases e3 with rfl | rfl <;> rw [e] at hz ⊢ <;> simp at hz ⊢
    have e9 : a * (half x).snd = 2 := by
      show a * rd x 2 = 2
      rw [h2.1, h2.2]; rfl
    refine ⟨ok_small (by show 0 ≤ rd x 2; omega) (by show rd x 2 ≤ _; omega), 2, step 2 (.inl rfl) (by rw [h2.2]; decide), rfl, rfl, by rw [e9], trivial⟩
theorem bodyE : fnBody (fnAt 39) = [stAt (fnBody (fnAt 39)) 0, stAt (fnBody (fnAt 39)) 1, placeS, stAt (fnBody (fnAt 39)) 3] := by kernel_rfl
theorem retE : ∃ p1 p2 p3 p4 p5 p6, stAt (fnBody (fnAt 39)) 3 = .Return (some (.Call (.Name (Str.ofString "sorted") p1) [.Name (Str.ofString "items") p2] [⟨some (Str.ofString "key"), .Name xpl p3, p4⟩] p5)) p6 := ⟨_, _, _, _, _, _, rfl⟩
theorem key_half {x sc : Int} (h : sc % (rd x 2) = 0) : 2 * (rn x 2 * sc.fdiv (rd x 2)) = x * sc := by
  have hc : rn x 2 * 2 = x * rd x 2 := red_cross
  rw [Int.fdiv_eq_ediv_of_nonneg _ (Int.le_of_lt (rd2_pos x))]
  have e1 := Int.mul_ediv_add_emod sc (rd x 2)
  rw [h, Int.add_zero] at e1
  generalize sc / rd x 2 = q at *
  subst e1
  rw [← Int.mul_assoc, Int.mul_comm 2, hc, Int.mul_assoc]
theorem key_mono {x y sc : Int} (hs : 0 < sc) (hx : sc % (rd x 2) = 0) (hy : sc % (rd y 2) = 0) (h : rn x 2 * sc.fdiv (rd x 2) ≤ rn y 2 * sc.fdiv (rd y 2)) : x ≤ y := by
  have h1 := key_half hx
  have h2 := key_half hy
  exact Int.le_of_mul_le_mul_right (by omega) hs
set_option maxRecDepth 100000
noncomputable def objFields : Option Obj → Array Value
  | some ⟨_, _, .fields vs, _⟩ => vs
  | _ => #[]
theorem code284 {P : Params} {h : Heap} (K : (heapK P).In h) : CodeHd h 284 280 :=
  ⟨⟨.type "code", none, .fields (objFields ((heapK P).lookup 284)), #[]⟩, objFields ((heapK P).lookup 284), Str.ofString "/claim/cut.py", 518, 3, 0, true, 181, 0, K _ _ (by kernel_rfl), rfl, rfl, by kernel_rfl, by kernel_rfl, by kernel_rfl, by kernel_rfl, by kernel_rfl, by kernel_rfl, by decide⟩
section
variable {prog : Program} {w : World} {b : Heap} {A : Around} {ρ : List Addr} {st : Shared} {env : Env} {lv : Nat}
theorem Dens.pick {h : Heap} {l : List SV} {vs : List Value} (d : Dens h ρ l vs) : ∀ (p : List Nat), (∀ i ∈ p, i < vs.length) → Dens h ρ (p.map fun i => l.getD i .none) (p.map fun i => vs.getD i .none)
  | [], _ => .nil
  | i :: p, hp => .cons (by
      show Den h ρ (l.getD i .none) (vs.getD i .none)
      have hi := hp i List.mem_cons_self
      obtain ⟨v, e1, dv⟩ := d.at (i := i) (x := l.getD i .none) (by rw [atN_eq, List.getD_eq_getElem?_getD, List.getElem?_eq_getElem (by rw [← d.length]; exact hi)]; rfl)
      rw [show vs.getD i .none = v by rw [List.getD_eq_getElem?_getD, e1]; rfl]
      exact dv) (Dens.pick d p fun i hi => hp i (List.mem_cons_of_mem _ hi))
/-- place made: the table's entry, the function with its cell -/
theorem def_place (S : Sta prog w b) (O : EnvOk env) (en : env.scope.names = fnSc (fnAt 39)) (ec : env.code = .ref 284) {s : St} {c : Addr} (R : Rel prog w b env ρ s st.heap) (e1 : atN ρ 1 = some 280) (el : atN s.led 1 = some (.tab true)) (hc : env.cells.lookup xsc = some c)
    {Q : Flow → Shared → Prop} (hQ : ∀ f qual doc pm c' ctv st', st'.heap.get? f = some (fnMade xpl qual (fnArgs placeS) (fnBody placeS) (fnScope placeS) [(xsc, c)] doc pm c' ctv) → st'.heap.CodeRec (.ref c') qual → f ∉ xs env ∧ c' ∉ xs env →
      (∃ ρ', Mid prog w b env ρ st ρ' { loc := put s.loc xpl (.glo f), led := setN s.led 1 (.tab false) } st') → Q .next st') : wpAny (model prog w) A (exec placeS env) Q F0 st := by
  rw [placeE]
  obtain ⟨mg, hg, bm, ob, b1, b2, b3, b4, b5, b6⟩ := S.bm
  have KI := S.K.keeps R.stays
  have hP : st.heap.get? 280 = some (tabObj #[]) := by
    cases R.led.lay 1 _ _ e1 el with
    | tab0 h => exact h
  have b0 : b.get? 280 = none := R.led.off 280 (atN_mem e1)
  have nG : mainGlobals ≠ 280 := by decide
  have bP : bm ≠ 280 := fun q => by rw [q, b0] at b3; cases b3
  have bG : bm ≠ mainGlobals := fun q => by
    obtain ⟨o, es, ep, e, hd, _⟩ := hg
    rw [q, e] at b3; cases b3; rw [hd] at b6; cases b6
  have hcl : closureFor (fnScope placeS) env = pure [(xsc, c)] := by
    rw [closure_ok (fun p hp hk => ?_), placeN]
    · show pure [(xsc, (env.cells.lookup xsc).getD 0)] = _
      rw [hc]; rfl
    · rw [placeN] at hp
      simp only [List.mem_cons, List.not_mem_nil, or_false] at hp
      rcases hp with rfl | rfl
      · cases hk
      · exact ⟨c, hc⟩
  refine nestDef_K (by kernel_rfl) (by kernel_rfl) (by kernel_rfl) (makeFunction_K (mg := mg) hcl O.glob (hg.keeps R.stays) ec (code284 KI) hP (by trivial) rfl nG ⟨bm, ob, b1, b2, bG, bP, R.stays _ _ b3, b4, b5, b6⟩ fun c' ctv doc h' tk hx hge hlt hrec htb => ?_)
  have keep : ∀ a o, a ≠ 280 → st.heap.get? a = some o → (h'.push (fnMade xpl (qualnameIn env xpl xpl) (fnArgs placeS) (fnBody placeS) (fnScope placeS) [(xsc, c)] doc ((mg "__name__").getD .none) c' ctv)).get? a = some o := fun a o n e => Heap.get?_push_of_some _ (hx a o n e)
  have M := Mid.set (tk := tk) (o := .tab false) R e1 keep (.tab1 (Heap.get?_push_of_some _ htb)) ⟨_, Heap.get?_push_of_some _ htb⟩
  have old : ∀ a, st.heap.objs.size ≤ a → a ∉ xs env ∧ a ∉ ρ := fun a ha => by
    have nx : st.heap.get? a = none := Heap.get?_none_of_le ha
    refine ⟨fun m => ?_, fun m => ?_⟩
    · obtain ⟨o, e, _⟩ := R.soft a m
      rw [nx] at e; cases e
    · obtain ⟨o, e⟩ := R.led.live a m
      rw [nx] at e; cases e
  refine wpAny_mono (store_ok (K := fun s' => s' = { loc := put s.loc xpl (.glo h'.objs.size), led := setN s.led 1 (.tab false) }) O M.rel (.glo _) (isLocal_store (by rw [en]; kernel_rfl) rfl)) (fun _ st' hv => ?_) fun _ _ x => x
  obtain ⟨ρ', s', M', rfl⟩ := hv
  obtain ⟨c₂, oc, vs, t, q2, hoc, hd, hv⟩ := hrec
  cases q2
  have fr := old h'.objs.size (Nat.le_trans hge (Nat.le_of_lt hlt))
  have fc := old c' hge
  exact hQ _ _ _ _ c' _ st' (M'.ext.keep _ _ (Heap.get?_push_size _ rfl) fr.1 fr.2) ⟨c', oc, vs, t, rfl, M'.ext.keep _ _ (Heap.get?_push_of_some _ hoc) fc.1 fc.2, hd, hv⟩ ⟨fr.1, fc.1⟩ ⟨ρ', M.trans M'⟩
end
set_option maxRecDepth 100000
noncomputable def keyOf (sc x : Int) : Int := rn x 2 * sc.fdiv (rd x 2)
theorem vNm (K : KV) (C : Cfg) (f : Nat) (sc : Int) (led : List SO) : (K (.prim (.builtin "sorted")) ⟨[(Str.ofString "items", .own 0), (xsc, .int sc), (xpl, .glo f)], led⟩) → nameW (c0 [] []) (fnSc (fnAt 39)) (Str.ofString "sorted") ⟨[(Str.ofString "items", .own 0), (xsc, .int sc), (xpl, .glo f)], led⟩ K := Eq.mp (by kernel_rfl)
theorem srt_pairs {hs : List Int} {sc : Int} {p : Array Nat} (hp : Prm hs.length p) (s : Srt (fun i => (hs.map (keyOf sc)).getD i 0) p hs.length) (hsc : 0 < sc) (hd : ∀ x ∈ hs, sc % rd x 2 = 0) :
    (p.toList.map fun i => hs.getD i 0).Perm hs ∧ (p.toList.map fun i => hs.getD i 0).Pairwise (· ≤ ·) := by
  have hin : ∀ i ∈ p.toList, i < hs.length := fun i hi => List.mem_range.mp (hp.mem_iff.mp hi)
  refine ⟨?_, ?_⟩
  · have h1 := List.Perm.map (fun i => hs.getD i 0) hp
    rwa [range_pick] at h1
  · rw [List.pairwise_map, List.pairwise_iff_getElem]
    intro i j hi hj hij
    have q := s i j (Nat.le_of_lt hij) (by rw [← hp.size]; simpa using hj)
    have gk : ∀ i (hi : i < p.toList.length), Ky (fun i => (hs.map (keyOf sc)).getD i 0) p i = keyOf sc (hs.getD p.toList[i] 0) ∧ hs.getD p.toList[i] 0 ∈ hs := fun i hi => by
      have b := hin _ (List.getElem_mem hi)
      have e : hs.getD p.toList[i] 0 = hs[p.toList[i]] := by rw [List.getD_eq_getElem?_getD, List.getElem?_eq_getElem b]; rfl
      have hi' : i < p.size := by simpa using hi
      refine ⟨?_, by rw [e]; exact List.getElem_mem b⟩
      show (hs.map (keyOf sc)).getD (p.getD i 0) 0 = _
      have gi : p.getD i 0 = p.toList[i] := by simp [hi']
      rw [gi, List.getD_eq_getElem?_getD, List.getElem?_map, List.getElem?_eq_getElem b, e]; rfl
    obtain ⟨a1, a2⟩ := gk i hi
    obtain ⟨b1, b2⟩ := gk j hj
    rw [a1, b1] at q
    exact key_mono hsc (hd _ a2) (hd _ b2) q
section
variable {prog : Program} {w : World} {b : Heap} {A : Around} {ρ : List Addr} {st : Shared} {env : Env} {lv : Nat}
theorem AOk.in2 (h : AOk (lv + 1) A) : AOk lv A.in1.in1 := by
  obtain ⟨a1, a2, a3, r⟩ := h
  exact ⟨a1, by show A.depth + lv + 110 < _; omega, by show A.units + 1 + 1 + 8 * lv + 200 < _; omega, r⟩
theorem nm_loc {C : Cfg} {sc : Sc} {x : Str} {s : St} {v : SV} {K : KV} (e : get s.loc x = some v) (h : K v s) : nameW C sc x s K := by unfold nameW; rw [e]; exact h
theorem asc_ret (S : Sta prog w b) (O : EnvOk env) (hA : AOk 2 A) (en : env.scope.names = fnSc (fnAt 39)) {hs : List Int} {sc : Int} {c f c' : Addr} {qual : Str} {doc pm ctv : Value} (hl : hs.length ≤ 7) (hsc : sc = 1 ∨ sc = 2) (hd : ∀ x ∈ hs, sc % rd x 2 = 0)
    (R : Rel prog w b env ρ ⟨[(Str.ofString "items", .own 0), (xsc, .int sc), (xpl, .glo f)], [.list (.frs (hs.map half)), .tab false]⟩ st.heap) (hc : env.cells.lookup xsc = some c)
    (hf : st.heap.get? f = some (fnMade xpl qual (fnArgs placeS) (fnBody placeS) (fnScope placeS) [(xsc, c)] doc pm c' ctv)) (hcd : st.heap.CodeRec (.ref c') qual) (hfx : f ∉ xs env ∧ c' ∉ xs env) {K : SV → List SO → Prop}
    (hK : ∀ hs' : List Int, hs'.Perm hs → hs'.Pairwise (· ≤ ·) → K (.own 2) [.list (.frs (hs.map half)), .tab false, .list (.frs (hs'.map half))]) :
    wpAny (model prog w) A (exec (stAt (fnBody (fnAt 39)) 3) env) (PostF prog w b env ρ st (kOf K)) F0 st := by
  obtain ⟨p1, p2, p3, p4, p5, p6, e⟩ := retE
  rw [e]
  refine wpAny_Return_some (wpAny_Call_Name_kw (name_okQ (C := c0 [] []) (K := fun v _ => v = .prim (.builtin "sorted")) S (glob_ok w) O R (en ▸ vNm _ (c0 [] []) f sc _ rfl) fun v₁ u₁ h₁ d₁ => ?_))
  subst h₁; cases d₁
  refine callWith_kw (args_cons (name_okQ (C := c0 [] []) (K := fun v _ => v = .own 0) S (glob_ok w) O R (nm_loc (by kernel_rfl) rfl) fun v₂ u₂ h₂ d₂ => args_nil (kws_cons (name_okQ (C := c0 [] []) (K := fun v _ => v = .glo f) S (glob_ok w) O R (nm_loc (by kernel_rfl) rfl) fun v₃ u₃ h₃ d₃ => kws_nil ?_))) rfl)
  subst h₂ h₃; cases d₃
  obtain ⟨a, vs, n, rfl, ea, ho, ds⟩ := list_at R d₂ rfl
  obtain ⟨m, ns, hh⟩ := R.frame
  obtain ⟨t, cv⟩ : ∃ t, st.heap.IsCell c (some (.int sc t)) := by
    obtain ⟨v, dv, k⟩ := hh xsc (.int sc) (by kernel_rfl)
    cases dv
    rcases k with ⟨k, _⟩ | ⟨_, c₂, h₂, hi⟩
    · rw [kindOf_get, en] at k; exact absurd k (by decide +kernel)
    · rw [hc] at h₂; cases h₂; exact ⟨_, hi⟩
  have len : vs.length = hs.length := by rw [ds.length]; simp [SL.den]
  have bL : ∀ a ∈ xs env, b.get? a = none := R.xnone
  have cX : c ∈ xs env := List.mem_cons_of_mem _ (cells_mem hc)
  show wpAny (model prog w) A (call (.builtin "sorted") [.ref a] [(Str.ofString "key", .ref f)]) _ _ _
  refine sort_key (L := env.locals) (c := c) (sc := sc) (kz := hs.map (keyOf sc)) ns ⟨t, cv⟩ (isList_of ho) (by omega) (by rw [List.length_map, len]) (ksk_s1 _ _) (fun _ => ksk_l1 _ _) (fun _ => ksk_t1 _ _) (fun i v k hv hk s' J => ?_) fun D p n s' hp hs' fD J eD => ?_
  · obtain ⟨t', cv'⟩ := J.cell
    have hi : i < hs.length := by rw [← len]; exact (List.getElem?_eq_some_iff.mp hv).1
    rw [List.getElem?_map, List.getElem?_eq_getElem hi] at hk
    cases hk
    obtain ⟨v', ev, dv⟩ := ds.at (i := i) (x := fr (half hs[i])) (by rw [atN_eq]; simp [SL.den, hi])
    rw [hv] at ev; cases ev
    have stays' : ∀ a o, b.get? a = some o → s'.heap.get? a = some o := fun a o e => J.keep a o (fun q => by rw [q, R.above] at e; cases e) (fun q => by rw [q, bL c cX] at e; cases e) (R.stays a o e)
    have nf : ∀ a o, st.heap.get? a = some o → a ∉ xs env → s'.heap.get? a = some o := fun a o e n => J.keep a o (fun q => n (q ▸ List.mem_cons_self)) (fun q => n (q ▸ cX)) e
    have dv' := dens_but (X := xs env) R.soft (fun a o n e => nf a o e n) (.cons (Den.clean (ρ := []) (fun _ m => nomatch m) rfl dv) .nil)
    cases dv' with
    | cons dv' _ =>
    obtain ⟨c₂, oc, ws, t₂, q2, hoc, hdd, hvv⟩ := hcd
    cases q2
    exact place_call S hA.in2 stays' (nf _ _ hf hfx.1) ⟨c', oc, ws, t₂, rfl, nf _ _ hoc hfx.2, hdd, hvv⟩ cv' (bL c cX) hsc dv'
  · rw [len] at hp hs'
    obtain ⟨h1, h2⟩ := srt_pairs hp hs' (by omega) hd
    have k : ∀ a o, a ∉ xs env → st.heap.get? a = some o → s'.heap.get? a = some o := fun a o n e => J.keep a o (fun q => n (q ▸ List.mem_cons_self)) (fun q => n (q ▸ cX)) e
    have x : Ext (xs env) ρ st.heap (ρ ++ [D]) s'.heap := ⟨fun i c e => by rw [atN_append, if_pos (atN_some e)]; exact e, fun a o e n _ => k a o n e, fun a m n => by
      rcases List.mem_append.mp m with m | m
      · exact absurd m n
      · rw [List.mem_singleton.mp m]; exact fD, fun a o e n => ⟨o, k a o n e⟩⟩
    have nρ : ∀ a ∈ ρ, a ∉ xs env := fun a m n => R.off a n m
    have dl := (ds.ext x R.soft).pick p.toList fun i hi => by rw [len]; exact List.mem_range.mp (hp.mem_iff.mp hi)
    have bD : b.get? D = none := by
      cases e : b.get? D with
      | none => rfl
      | some o => rw [R.stays D o e] at fD; cases fD
    have ey : (SL.frs ((p.toList.map fun i => hs.getD i 0).map half)).den = p.toList.map fun i => (SL.frs (hs.map half)).den.getD i .none := by
      show ((p.toList.map fun i => hs.getD i 0).map half).map fr = p.toList.map fun i => ((hs.map half).map fr).getD i .none
      rw [List.map_map, List.map_map]
      refine List.map_congr_left fun i hi => ?_
      have hi := List.mem_range.mp (hp.mem_iff.mp hi)
      simp [hi]
    refine ⟨ρ ++ [D], _, ⟨[], _ ++ [.list (.frs ((p.toList.map fun i => hs.getD i 0).map half))]⟩, ⟨J.os, J.gens, x, ⟨R.led.push x R.soft (fun a m o => k a o (nρ a m)) fD bD (.list eD (ey ▸ dl)), fun a o e => k a o (fun n => by rw [bL a n] at e; cases e) (R.stays a o e), ⟨m, J.ns, fun _ _ e => nomatch e⟩, R.above, fun a ha => ?_, fun a ha hm => ?_, R.inj⟩⟩, .ret (den_new R.led), hK _ h1 h2⟩
    · by_cases q : a = c
      · subst q; exact ⟨bL _ cX, _, (J.cell).choose_spec⟩
      · obtain ⟨k1, v, o, e, dd⟩ := R.abc a ha
        have nL : a ≠ env.locals := fun q => by
          obtain ⟨o', es, ep, eo, d', _⟩ := ns
          rw [← q, e] at eo; cases eo; rw [dd] at d'; cases d'
        exact ⟨k1, v, o, J.keep a o nL q e, dd⟩
    · rcases List.mem_append.mp hm with hm | hm
      · exact R.off a ha hm
      · obtain ⟨o, e, _⟩ := R.soft a ha
        rw [List.mem_singleton.mp hm, fD] at e; cases e
end
set_option maxRecDepth 100000
noncomputable def sAsc : Spec := fun args led K => on1 args fun v => match v with
  | .own j => atN led 0 = some (.tab true) ∧ ∃ hs : List Int, atN led j = some (.list (.frs (hs.map half))) ∧ hs.length ≤ 7 ∧ ∀ hs' : List Int, hs'.Perm hs → hs'.Pairwise (· ≤ ·) → K (.own led.length) (setN led 0 (.tab false) ++ [.list (.frs (hs'.map half))])
  | _ => False
section
variable {prog : Program} {w : World} {b : Heap} {A : Around} {st : Shared} {env : Env} {ρ : List Addr}
theorem asc_body (S : Sta prog w b) (O : EnvOk env) (hA : AOk 2 A) (en : env.scope.names = fnSc (fnAt 39)) (ec : env.code = .ref 284) {hs : List Int} (hl : hs.length ≤ 7) (e1 : atN ρ 1 = some 280)
    (R : Rel prog w b env ρ ⟨[(Str.ofString "items", .own 0)], [.list (.frs (hs.map half)), .tab true]⟩ st.heap) {K : SV → List SO → Prop} (hK : ∀ hs' : List Int, hs'.Perm hs → hs'.Pairwise (· ≤ ·) → K (.own 2) [.list (.frs (hs.map half)), .tab false, .list (.frs (hs'.map half))]) :
    wpAny (model prog w) A (execs (fnBody (fnAt 39)) env) (PostF prog w b env ρ st (kOf K)) F0 st := by
  have H : BunOk prog w b 2 (bun (c0 [] [(167, iAsc hs)]) 30) := bun_ok (Cf := c0 [] [(167, iAsc hs)]) (fun _ _ h => h.elim) S (glob_ok w) hc0 30
  have h0 := asc_loop hs (K := fun f s => f = .next ∧ ∃ a, (a = 1 ∨ a = 2) ∧ (∀ x ∈ hs, a % rd x 2 = 0) ∧ s = ⟨[(Str.ofString "items", SV.own 0), (xsc, SV.int a)], [SO.list (SL.frs (List.map half hs)), SO.tab true]⟩) fun a h1 h2 => ⟨rfl, a, h1, h2, rfl⟩
  rw [← en] at h0
  rw [bodyE]
  refine wpAny_execs_cons (wpAny_mono (H.ex O hA R h0) (fun f₁ st₁ hf => ?_) fun _ _ x => x)
  obtain ⟨ρ₁, fl, s₁, m₁, d₁, k₁⟩ := hf
  cases d₁ <;> first | exact k₁.elim | skip
  refine wpAny_execs_cons (wpAny_mono (H.ex O hA m₁.rel k₁) (fun f₂ st₂ hf => ?_) fun _ _ x => x)
  obtain ⟨ρ₂, _, _, m₂, d₂, rfl, sc, hsc, hd, rfl⟩ := hf
  cases d₂
  obtain ⟨c, hc⟩ := Option.isSome_iff_exists.mp (O.cells xsc (by rw [kindOf_get, en]; kernel_rfl))
  have M := m₁.trans m₂
  refine wpAny_execs_cons (def_place S O en ec m₂.rel (M.ext.pre _ _ e1) rfl hc fun f qual doc pm c' ctv st₃ hf hcd hx ⟨ρ₃, m₃⟩ => ?_)
  have M' := M.trans m₃
  refine wpAny_execs_cons (wpAny_mono (asc_ret S O hA en hl hsc hd m₃.rel hc hf hcd hx hK) (fun f₄ st₄ hf => ?_) fun _ _ x => x)
  obtain ⟨ρ₄, fl, s₄, m₄, d₄, k₄⟩ := hf
  cases d₄ with
  | next => exact wpAny_execs_nil ⟨ρ₄, _, s₄, M'.trans m₄, .next, k₄⟩
  | brk => exact k₄.elim
  | cont => exact k₄.elim
  | ret dv => exact ⟨ρ₄, _, s₄, M'.trans m₄, .ret dv, k₄⟩
theorem soft_list {h : Heap} {a : Addr} {xs : Array Value} {n : Nat} (g : h.get? a = some (PySem.W.listOf xs n)) : ∃ o, h.get? a = some o ∧ (∀ xs n, o.cls = .type "tuple" → o.data ≠ .seq xs n) ∧ ∀ vs, o.cls = .type "range" → o.data ≠ .fields vs :=
  ⟨_, g, fun xs n c _ => (by injection c with c; exact absurd c (by decide)), fun vs c _ => (by injection c with c; exact absurd c (by decide))⟩
theorem soft_tab {h : Heap} {a : Addr} {xs : Array Value} (g : h.get? a = some (tabObj xs)) : ∃ o, h.get? a = some o ∧ (∀ xs n, o.cls = .type "tuple" → o.data ≠ .seq xs n) ∧ ∀ vs, o.cls = .type "range" → o.data ≠ .fields vs :=
  ⟨_, g, fun _ _ _ e => (by cases e), fun _ e _ => (by cases e)⟩
theorem asc_sp (S : Sta prog w b) : SpecOk prog w b 3 285 sAsc := by
  refine ⟨by kernel_rfl, fun A ρ led st vs us K hA D stays ds hsp => ?_⟩
  obtain ⟨v, rfl, hk⟩ := on1_of hsp
  cases v <;> first | exact hk.elim | skip
  rename_i j
  obtain ⟨et, hs, el, hl, hk⟩ := hk
  cases ds with
  | cons d0 ds =>
  cases ds
  cases d0 with
  | own ea =>
  rename_i aj
  obtain ⟨at0, e0⟩ : ∃ a, atN ρ 0 = some a := by
    have := D.len ▸ atN_some et
    exact ⟨_, by rw [atN_eq, List.getElem?_eq_getElem this]⟩
  have lt := D.lay 0 _ _ e0 et
  cases lt with
  | tab0 gt =>
  have ne : aj ≠ 280 := fun q => by
    obtain rfl := D.inj j 0 _ (q ▸ ea) e0
    rw [et] at el; cases el
  have sf := D.soft
  have D0 : Led prog w b st.heap [aj, 280] [.list (.frs (hs.map half)), .tab true] := by
    refine ⟨rfl, fun i j c ei ej => ?_, fun i c o ec eo => ?_, fun c hm => ?_⟩
    · match i, j, ei, ej with
      | 0, 0, _, _ => rfl
      | 1, 1, _, _ => rfl
      | 0, 1, ei, ej => cases ei; cases ej; exact absurd rfl ne
      | 1, 0, ei, ej => cases ei; cases ej; exact absurd rfl ne
    · match i, ec, eo with
      | 0, ec, eo =>
        cases ec; cases eo
        cases D.lay j _ _ ea el with
        | list g dd => exact .list g (Dens.clean (fun c hm => sf c (by
            rcases List.mem_cons.mp hm with rfl | hm
            · exact atN_mem ea
            · rw [List.mem_singleton.mp hm]; exact atN_mem e0)) (cleanL_den (l := .frs (hs.map half)) rfl) dd)
      | 1, ec, eo => cases ec; cases eo; exact .tab0 gt
    · rcases List.mem_cons.mp hm with rfl | hm
      · exact D.off _ (atN_mem ea)
      · rw [List.mem_singleton.mp hm]; exact D.off _ (atN_mem e0)
  obtain ⟨fd, ef, hd, F⟩ := fn_open (st := fnAt 39) (q := Str.ofString "ascending") (dV := .none) (doc := .none) (pm := mSum) (cd := .ref 284) (ct := .none) (an := none) (by kernel_rfl)
  have hlk : (heapK w.params).lookup 285 = some ⟨.type "function", none, .func fd, #[]⟩ := by rw [← ef]; kernel_rfl
  obtain ⟨as, kd, df, hp, hpar⟩ := F.par
  have hps : fnParams (fnAt 39) = [Str.ofString "items"] := by kernel_rfl
  refine wpAny_call (run_core (K := fun v led => v = .own 2 ∧ ∃ hs' : List Int, hs'.Perm hs ∧ hs'.Pairwise (· ≤ ·) ∧ led = [.list (.frs (hs.map half)), .tab false, .list (.frs (hs'.map half))]) (vs := [.own 0]) S hlk F (by kernel_rfl) hA.weak D0 stays (.cons (.own rfl) .nil) (.of_eq ?_)
    (fun env A st₁ O en ec hA' R => asc_body S O hA' en ec hl rfl (by rw [hps] at R; exact R) fun hs' h1 h2 => ⟨rfl, hs', h1, h2, rfl⟩) fun v st' ρ' sv led' h1 h2 x D' d hk' => ?_)
  · rw [← hpar]
    exact bind_plain hp hd (hpar ▸ F.parA) (by rw [hpar, hps]; rfl)
  obtain ⟨rfl, hs', q1, q2, rfl⟩ := hk'
  cases d with
  | own eD =>
  rename_i aD
  have a0 : atN ρ' 0 = some aj := x.pre 0 _ rfl
  have a1 : atN ρ' 1 = some 280 := x.pre 1 _ rfl
  have nD : ∀ i c, atN ρ' i = some c → i ≠ 2 → c ≠ aD := fun i c e n q => n (D'.inj i 2 c e (q ▸ eD))
  have fD : st.heap.get? aD = none := x.fresh aD (atN_mem eD) fun m => by
    rcases List.mem_cons.mp m with m | m
    · exact nD 0 aj a0 (by decide) m.symm
    · exact nD 1 280 a1 (by decide) (List.mem_singleton.mp m).symm
  cases D'.lay 0 _ _ a0 rfl with
  | list g0 dd0 =>
  cases D'.lay 1 _ _ a1 rfl with
  | tab1 g1 =>
  cases D'.lay 2 _ _ eD rfl with
  | list g2 dd2 =>
  have off : ∀ c, c ≠ aj → c ≠ 280 → c ∉ [aj, 280] := fun c n1 n2 m => by
    rcases List.mem_cons.mp m with m | m
    · exact n1 m
    · exact n2 (List.mem_singleton.mp m)
  have sf' : Soft st'.heap (ρ ++ [aD]) := fun c hm => by
    rcases List.mem_append.mp hm with hm | hm
    · by_cases q : c = aj
      · subst q; exact soft_list g0
      · by_cases q2 : c = 280
        · subst q2; exact soft_tab g1
        · obtain ⟨o, e, r⟩ := sf c hm
          exact ⟨o, x.keep c o e (fun m => nomatch m) (off c q q2), r⟩
    · rw [List.mem_singleton.mp hm]; exact soft_list g2
  have xE : Ext [] ρ st.heap (ρ ++ [aD]) st'.heap := ⟨fun i c e => by rw [atN_append, if_pos (atN_some e)]; exact e, fun c o e _ nr => x.keep c o e (fun m => nomatch m) (fun m => nr (by
      rcases List.mem_cons.mp m with rfl | m
      · exact atN_mem ea
      · rw [List.mem_singleton.mp m]; exact atN_mem e0)), fun c m n => by
    rcases List.mem_append.mp m with m | m
    · exact absurd m n
    · rw [List.mem_singleton.mp m]; exact fD, fun c o e _ => x.live c o e fun m => nomatch m⟩
  have bD : b.get? aD = none := by
    cases e : b.get? aD with
    | none => rfl
    | some o => rw [stays _ _ e] at fD; cases fD
  have cl : ∀ {hs : List Int} {vs}, Dens st'.heap ρ' (SL.frs (hs.map half)).den vs → Dens st'.heap (ρ ++ [aD]) (SL.frs (hs.map half)).den vs := fun {hs vs} dd => Dens.clean sf' (cleanL_den (l := .frs (hs.map half)) rfl) dd
  have nρ : aD ∉ ρ := fun m => by
    obtain ⟨o, e⟩ := D.live _ m
    rw [fD] at e; cases e
  have hlen : (setN led 0 (.tab false)).length = ρ.length := by rw [setN_length, D.len]
  refine ⟨ρ ++ [aD], .own led.length, _, h1, h2, xE, ⟨by rw [List.length_append, List.length_append, hlen]; rfl, fun i j c ei ej => ?_, fun i c o ec eo => ?_, fun c hm => ?_⟩, .own (by rw [atN_append, D.len, if_neg (Nat.lt_irrefl _), Nat.sub_self]; rfl), hk hs' q1 q2⟩
  · rw [atN_append] at ei ej
    have one : ∀ {k c}, atN [aD] k = some c → k = 0 ∧ c = aD := fun {k c} e => by
      cases k with
      | zero => cases e; exact ⟨rfl, rfl⟩
      | succ n => cases e
    split at ei <;> split at ej
    · exact D.inj i j c ei ej
    · obtain ⟨_, rfl⟩ := one ej; exact absurd (atN_mem ei) nρ
    · obtain ⟨_, rfl⟩ := one ei; exact absurd (atN_mem ej) nρ
    · have := (one ei).1; have := (one ej).1; omega
  · rw [atN_append] at ec eo
    rw [hlen] at eo
    split at ec
    · rename_i hi
      rw [if_pos hi, atN_setN] at eo
      by_cases q : c = 280
      · obtain rfl := D.inj 0 i _ e0 (q ▸ ec)
        rw [if_pos ⟨rfl, D.len ▸ hi⟩] at eo
        cases eo; subst q; exact .tab1 g1
      · rw [if_neg fun n => q (by rw [← n.1, e0] at ec; cases ec; rfl)] at eo
        by_cases q2 : c = aj
        · subst q2
          obtain rfl := D.inj j i _ ea ec
          rw [el] at eo; cases eo
          exact .list g0 (cl dd0)
        · exact (D.lay i c o ec eo).ext xE (fun _ m => nomatch m) fun o e => x.keep c o e (fun m => nomatch m) (off c q2 q)
    · rename_i hi
      rw [if_neg hi] at eo
      cases hz : i - ρ.length with
      | zero => rw [hz] at ec eo; cases ec; cases eo; exact .list g2 (cl dd2)
      | succ n => rw [hz] at ec; cases ec
  · rcases List.mem_append.mp hm with hm | hm
    · exact D.off c hm
    · rw [List.mem_singleton.mp hm]; exact bD
end
set_option maxRecDepth 100000
noncomputable def takeS (s : St) (x : Int × Int × List Int) : St := { s with led := setN (setN s.led 4 (.list (.lit [.own 2, .int x.1, .int x.2.1]))) 2 (.list (.ints x.2.2)) }
noncomputable def takeP (x : Int × Int × List Int) : Prop := 0 ≤ x.1 ∧ 0 ≤ x.2.1 ∧ x.2.1 < 2147483563 ∧ x.2.2.length ≤ 1000
noncomputable def iTake : Inv := .cut (Int × Int × List Int) takeS fun _ x => takeP x
noncomputable def iLow (n d : Int) : Inv := .wh (Int × Int) (fun s x => { s with loc := put (put s.loc (Str.ofString "a") (.int x.1)) (Str.ofString "b") (.int x.2) }) (fun _ x => 0 ≤ x.1 ∧ 0 < x.2 ∧ Int.gcd x.1 x.2 = Int.gcd n d) fun x => x.1.toNat
/-- the ledger at the draws: the script's rest at 2, the source at 4 -/
noncomputable def tkL (o0 o1 o3 : SO) (rest : List SO) (x : Int × Int × List Int) : List SO := o0 :: o1 :: .list (.ints x.2.2) :: o3 :: .list (.lit [.own 2, .int x.1, .int x.2.1]) :: rest
noncomputable def tkOut (o0 o1 o3 : SO) (rest : List SO) (m a t : Int) (xs : List Int) : Prop := ∃ x, takeP x ∧ tkL o0 o1 o3 rest (a, t, xs) = tkL o0 o1 o3 rest x ∧ some (SV.own 4) = some (SV.own 4) ∧ some (SV.int m) = some (SV.int m) ∧ True
theorem vTake (o0 o1 o3 : SO) (rest : List SO) (xs : List Int) (a t m : Int) (K : SV → List SO → Prop) : (brn (decide (a = 0)) (IntMulOk t 40014 ∧ (2147483563 : Int) ≠ 0 ∧ ((0 : Int) ≤ 2 ∧ (2 : Int) < ((3 : Nat) : Int) ∧ (2 : Int) < 1000) ∧
      brn (!decide (xs = [])) (xs.length ≤ 1000 ∧ xs ≠ [] ∧ ((0 : Int) ≤ 1 ∧ (1 : Int) < ((3 : Nat) : Int) ∧ (1 : Int) < 1000) ∧ brn (decide (0 ≤ xs.headD 0)) (((0 : Int) ≤ 1 ∧ (1 : Int) < ((3 : Nat) : Int) ∧ (1 : Int) < 1000) ∧ tkOut o0 o1 o3 rest m (xs.headD 0) ((t * 40014).fmod 2147483563) xs.tail) (((0 : Int) ≤ 1 ∧ (1 : Int) < ((3 : Nat) : Int) ∧ (1 : Int) < 1000) ∧ tkOut o0 o1 o3 rest m (-xs.headD 0) ((t * 40014).fmod 2147483563) xs.tail))
        ((11 : Int) ≠ 0 ∧ ((0 : Int) ≤ 1 ∧ (1 : Int) < ((3 : Nat) : Int) ∧ (1 : Int) < 1000) ∧ brn (decide (0 ≤ ((t * 40014).fmod 2147483563).fdiv 11)) (((0 : Int) ≤ 1 ∧ (1 : Int) < ((3 : Nat) : Int) ∧ (1 : Int) < 1000) ∧ tkOut o0 o1 o3 rest m (((t * 40014).fmod 2147483563).fdiv 11) ((t * 40014).fmod 2147483563) xs) (((0 : Int) ≤ 1 ∧ (1 : Int) < ((3 : Nat) : Int) ∧ (1 : Int) < 1000) ∧ tkOut o0 o1 o3 rest m (-((t * 40014).fmod 2147483563).fdiv 11) ((t * 40014).fmod 2147483563) xs)))
      (tkOut o0 o1 o3 rest m a t xs) ∧ ∀ x, takeP x → m ≠ 0 ∧ m ≠ 0 ∧ ((0 : Int) ≤ 1 ∧ (1 : Int) < ((3 : Nat) : Int) ∧ (1 : Int) < 1000) ∧ K (.int (x.1.fmod m)) (tkL o0 o1 o3 rest (x.1.fdiv m, x.2))) →
  bodyW (c0 [] [(277, iTake)]) (fnSc (fnAt 53)) (fnBody (fnAt 53)) ⟨(fnParams (fnAt 53)).zip [.own 4, .int m], tkL o0 o1 o3 rest (a, t, xs)⟩ (kOf K) := Eq.mp (by kernel_rfl)
theorem vLow (n d : Int) (led : List SO) (K : SV → List SO → Prop) : (∀ z, z = n ∨ z = -n → 0 ≤ z → (∃ a : Int × Int, (0 ≤ a.1 ∧ 0 < a.2 ∧ Int.gcd a.1 a.2 = Int.gcd n d) ∧ led = led ∧ some (SV.int n) = some (SV.int n) ∧ some (SV.int d) = some (SV.int d) ∧ some (SV.int z) = some (SV.int a.1) ∧ some (SV.int d) = some (SV.int a.2) ∧ True) ∧
    ∀ a : Int × Int, (0 ≤ a.1 ∧ 0 < a.2 ∧ Int.gcd a.1 a.2 = Int.gcd n d) → brn (decide (0 < a.1)) (a.1 ≠ 0 ∧ ∃ a' : Int × Int, (0 ≤ a'.1 ∧ 0 < a'.2 ∧ Int.gcd a'.1 a'.2 = Int.gcd n d) ∧ a'.1.toNat < a.1.toNat ∧ led = led ∧ some (SV.int n) = some (SV.int n) ∧ some (SV.int d) = some (SV.int d) ∧ some (SV.int (a.2.fmod a.1)) = some (SV.int a'.1) ∧ some (SV.int a.1) = some (SV.int a'.2) ∧ True) (a.2 ≠ 0 ∧ a.2 ≠ 0 ∧ K (SV.tup [SV.int (n.fdiv a.2), SV.int (d.fdiv a.2)]) led)) →
  bodyW (c0 [] [(287, iLow n d)]) (fnSc (fnAt 54)) (fnBody (fnAt 54)) ⟨(fnParams (fnAt 54)).zip [.int n, .int d], led⟩ (kOf K) := fun h => by
  have key : ∀ (c : Bool), c = decide (0 ≤ n) → brn c _ _ := fun c e => by
    cases c with
    | true => exact h n (.inl rfl) (of_decide_eq_true e.symm)
    | false => exact h (-n) (.inr rfl) (by have := of_decide_eq_false e.symm; omega)
  exact Eq.mp (by kernel_rfl) (key _ rfl)
noncomputable def asInts (o : Option SO) (f : List Int → Prop) : Prop := match o with
  | .some (.list (.ints xs)) => f xs
  | _ => False
noncomputable def asLit (o : Option SO) (f : List SV → Prop) : Prop := match o with
  | .some (.list (.lit l)) => f l
  | _ => False
theorem asInts_of {o : Option SO} {f : List Int → Prop} (h : asInts o f) : ∃ xs, o = some (.list (.ints xs)) ∧ f xs := by
  unfold asInts at h
  split at h
  · exact ⟨_, rfl, h⟩
  · exact h.elim
theorem asLit_of {o : Option SO} {f : List SV → Prop} (h : asLit o f) : ∃ xs, o = some (.list (.lit xs)) ∧ f xs := by
  unfold asLit at h
  split at h
  · exact ⟨_, rfl, h⟩
  · exact h.elim
theorem unc {α : Type} {l : List α} {n : Nat} (h : l.length = n + 1) : ∃ a r, l = a :: r ∧ r.length = n := by
  cases l with
  | nil => cases h
  | cons a r => exact ⟨a, r, rfl, Nat.succ.inj h⟩
theorem unat {α : Type} {l : List α} {n : Nat} {x : α} (h : atN l (n + 1) = some x) : ∃ a r, l = a :: r ∧ atN r n = some x := by
  cases l with
  | nil => cases h
  | cons a r => exact ⟨a, r, rfl, h⟩
theorem unz {α : Type} {l : List α} {x : α} (h : atN l 0 = some x) : ∃ r, l = x :: r := by
  cases l with
  | nil => cases h
  | cons a r => exact ⟨r, by cases h; rfl⟩
noncomputable def sTake : Spec := fun args led K => on2 args fun v u => v = .own 4 ∧ asInt u fun m => 0 < m ∧ asInts (atN led 2) fun xs => asLit (atN led 4) fun l => ∃ a t, l = [.own 2, .int a, .int t] ∧ takeP (a, t, xs) ∧
  ∀ f y, 0 ≤ f → f < m → takeP y → K (.int f) (setN (setN led 4 (.list (.lit [.own 2, .int y.1, .int y.2.1]))) 2 (.list (.ints y.2.2)))
noncomputable def sLow : Spec := fun args led K => on2 args fun a b => asInt a fun n => asInt b fun d => 0 < d ∧ K (.tup [.int (rn n d), .int (rd n d)]) led
noncomputable abbrev mLaw : Value := .str (Str.ofString "law_pq1322_01") 630
section
variable {prog : Program} {w : World} {b : Heap} {lv : Nat}
theorem tkOut_of {o0 o1 o3 : SO} {rest : List SO} {m a t : Int} {xs : List Int} (h : takeP (a, t, xs)) : tkOut o0 o1 o3 rest m a t xs := ⟨_, h, rfl, rfl, rfl, trivial⟩
theorem take_led {led : List SO} {a t : Int} {xs : List Int} (e2 : atN led 2 = some (.list (.ints xs))) (e4 : atN led 4 = some (.list (.lit [.own 2, .int a, .int t]))) : ∃ o0 o1 o3 rest, led = tkL o0 o1 o3 rest (a, t, xs) := by
  obtain ⟨o0, l, rfl, f2⟩ := unat e2
  obtain ⟨o1, m, rfl, g2⟩ := unat f2
  obtain ⟨n, rfl⟩ := unz g2
  obtain ⟨o3, k, rfl, g4⟩ := unat (l := n) (n := 0) e4
  obtain ⟨r, rfl⟩ := unz g4
  exact ⟨o0, o1, o3, r, rfl⟩
theorem take_sp (S : Sta prog w b) : SpecOk prog w b 1 365 sTake :=
  fn_ok S hc0 (k := 53) (c := 364) (q := Str.ofString "_law_take") (m := mLaw) (by kernel_rfl) (by kernel_rfl) (by kernel_rfl) fun args led K h => by
    obtain ⟨_, _, rfl, rfl, h'⟩ := on2_of h
    obtain ⟨m, rfl, hm, h⟩ := asInt_of h'
    obtain ⟨xs, e2, h⟩ := asInts_of h
    obtain ⟨_, e4, a, t, rfl, ⟨p1, p2, p3, p4⟩, hk⟩ := asLit_of h
    dsimp only at p1 p2 p3 p4
    obtain ⟨o0, o1, o3, rest, rfl⟩ := take_led e2 e4
    refine ⟨by kernel_rfl, _, vTake o0 o1 o3 rest xs a t m K ⟨brn_d (fun _ => ⟨IntMulOk.of_right (intBits_le_64 (by omega) (by omega)), by decide, by decide, ?_⟩) fun _ => tkOut_of ⟨p1, p2, p3, p4⟩, fun x hx => ⟨by omega, by omega, by decide, hk _ _ (Int.fmod_nonneg_of_pos _ hm) (Int.fmod_lt_of_pos _ hm) ⟨?_, hx.2⟩⟩⟩⟩
    · have q0 : 0 ≤ (t * 40014).fmod 2147483563 := Int.fmod_nonneg_of_pos _ (by decide)
      have q1 : (t * 40014).fmod 2147483563 < 2147483563 := Int.fmod_lt_of_pos _ (by decide)
      have q2 : 0 ≤ ((t * 40014).fmod 2147483563).fdiv 11 := Int.fdiv_nonneg q0 (by decide)
      by_cases e : xs = []
      · rw [decide_eq_true e]
        exact ⟨by decide, by decide, brn_t q2 ⟨by decide, tkOut_of ⟨q2, q0, q1, p4⟩⟩⟩
      · rw [decide_eq_false e]
        have pt : xs.tail.length ≤ 1000 := by rw [List.length_tail]; omega
        exact ⟨p4, e, by decide, brn_d (fun h => ⟨by decide, tkOut_of ⟨h, q0, q1, pt⟩⟩) fun h => ⟨by decide, tkOut_of ⟨by show 0 ≤ -_; omega, q0, q1, pt⟩⟩⟩
    · exact Int.fdiv_nonneg hx.1 (by omega)
theorem low_sp (S : Sta prog w b) : SpecOk prog w b 1 372 sLow :=
  fn_ok S hc0 (k := 54) (c := 371) (q := Str.ofString "_law_low") (m := mLaw) (by kernel_rfl) (by kernel_rfl) (by kernel_rfl) fun args led K h => by
    obtain ⟨_, _, rfl, h⟩ := on2_of h
    obtain ⟨n, rfl, h⟩ := asInt_of h
    obtain ⟨d, rfl, hd, hk⟩ := asInt_of h
    refine ⟨by kernel_rfl, _, vLow n d led K fun z hz z0 => ⟨⟨(z, d), ⟨z0, hd, ?_⟩, rfl, rfl, rfl, rfl, rfl, trivial⟩, fun a ⟨a0, b0, e⟩ => brn_d (fun pa => ?_) fun na => ?_⟩⟩
    · rcases hz with rfl | rfl
      · rfl
      · exact Int.neg_gcd
    · refine ⟨by omega, (a.2.fmod a.1, a.1), ⟨Int.fmod_nonneg_of_pos _ pa, pa, ?_⟩, ?_, rfl, rfl, rfl, rfl, rfl, trivial⟩
      · rw [Int.gcd_comm]
        exact (gcd_turn ((Int.gcd_comm a.2 a.1).trans e) (by omega) pa).2.2
      · have := Int.fmod_lt_of_pos a.2 pa
        have := Int.fmod_nonneg_of_pos a.2 pa
        show (a.2.fmod a.1).toNat < _
        omega
    · have e0 : a.1 = 0 := by omega
      have e1 : a.2 = (Int.gcd n d : Int) := by rw [← e, e0, Int.gcd_zero_left, Int.natAbs_of_nonneg (by omega)]
      refine ⟨by omega, by omega, ?_⟩
      rw [Int.fdiv_eq_ediv_of_nonneg _ (by omega), Int.fdiv_eq_ediv_of_nonneg _ (by omega), e1]
      exact hk
end
set_option maxRecDepth 100000
noncomputable def xtop : Str := Str.ofString "top"
noncomputable def xq : Str := Str.ofString "quarter"
noncomputable def topV (ys : List Int) (q : Int) : Int := 4 * ys.getD ((q * ((ys.length : Int) - 1)) / 4).toNat 0 + (q * ((ys.length : Int) - 1)) % 4 * (ys.getD ((q * ((ys.length : Int) - 1)) / 4 + 1).toNat 0 - ys.getD ((q * ((ys.length : Int) - 1)) / 4).toNat 0)
noncomputable def rowP (s : St) (P : List Int → Prop) : Prop := match atN s.led 10 with
  | .some (.list (.ints ys)) => P ys
  | _ => False
noncomputable def topP (s : St) (z : Int) : Prop := rowP s fun ys => match get s.loc xq with
  | .some (.int q) => z = topV ys q
  | _ => False
noncomputable def iTop : Inv := .cut Int (fun s z => { s with loc := put s.loc xtop (.int z) }) topP
noncomputable def qAt (ys : List Int) (k j : Nat) : SV := match Nat.blt j k with
  | true => .tup [.int (rn (topV ys j) 8), .int (rd (topV ys j) 8)]
  | false => .none
noncomputable def iQ : Inv := .ints (Nat → SV) (fun s f => { s with led := setN s.led 11 (.list (.lit [f 0, f 1, f 2, f 3, f 4])) }) fun s done f => rowP s fun ys => f = qAt ys done.length
noncomputable def iMean : Inv := .cut SV (fun s a => { s with loc := put s.loc (Str.ofString "mean") a }) fun s a => rowP s fun ys => a = meanF ys
noncomputable def rowN (ys : List Int) : Int := Int.ofNat (pick (decide (0 < ((SL.ints ys).len : Int))) (5, 0))
section
variable (o0 o1 o2 o3 o4 o5 o6 o7 o8 : SO) (hs : List Int) (lost : Int) (K : SV → List SO → Prop)
noncomputable def ledN (ys : List Int) (fl : List SV) : List SO := [o0, o1, o2, o3, o4, o5, o6, o7, o8, .list (.ints hs), .list (.ints ys), .list (.lit fl)]
noncomputable def f5 (f : Nat → SV) : List SV := [f 0, f 1, f 2, f 3, f 4]
noncomputable def locN (ys : List Int) (R : Prop) : Prop := some (SV.own 9) = some (SV.own 9) ∧ some (SV.int lost) = some (SV.int lost) ∧ some (SV.own 10) = some (SV.own 10) ∧ some (SV.int (ys.length : Int)) = some (SV.int (ys.length : Int)) ∧ some (SV.own 11) = some (SV.own 11) ∧ R
noncomputable def lowN (ys : List Int) (b : Int) : Int := (b * ((ys.length : Int) - 1)).fdiv 4
noncomputable def resN (ys : List Int) (b : Int) : Int := (b * ((ys.length : Int) - 1)).fmod 4
noncomputable def cutN (ys : List Int) (f : Nat → SV) (b top : Int) : Prop := ∃ z, z = topV ys b ∧ ledN o0 o1 o2 o3 o4 o5 o6 o7 o8 hs ys (f5 f) = ledN o0 o1 o2 o3 o4 o5 o6 o7 o8 hs ys (f5 f) ∧ locN lost ys (some (SV.int b) = some (SV.int b) ∧ some (SV.int (lowN ys b)) = some (SV.int (lowN ys b)) ∧ some (SV.int (resN ys b)) = some (SV.int (resN ys b)) ∧ some (SV.int top) = some (SV.int z) ∧ True)
noncomputable def turnN (ys : List Int) (n : Nat) (b : Int) (f : Nat → SV) : Prop := IntMulOk b ((ys.length : Int) - 1) ∧ (4 : Int) ≠ 0 ∧ IntMulOk b ((ys.length : Int) - 1) ∧ (4 : Int) ≠ 0 ∧ (0 ≤ lowN ys b ∧ lowN ys b < (ys.length : Int) ∧ lowN ys b < 1000) ∧ IntMulOk 4 (ys.getD (lowN ys b).toNat 0) ∧
  brn (decide (0 < resN ys b)) ((0 ≤ lowN ys b + 1 ∧ lowN ys b + 1 < (ys.length : Int) ∧ lowN ys b + 1 < 1000) ∧ (0 ≤ lowN ys b ∧ lowN ys b < (ys.length : Int) ∧ lowN ys b < 1000) ∧ IntMulOk (resN ys b) (ys.getD (lowN ys b + 1).toNat 0 - ys.getD (lowN ys b).toNat 0) ∧
      cutN o0 o1 o2 o3 o4 o5 o6 o7 o8 hs lost ys f b (4 * ys.getD (lowN ys b).toNat 0 + resN ys b * (ys.getD (lowN ys b + 1).toNat 0 - ys.getD (lowN ys b).toNat 0)))
    (cutN o0 o1 o2 o3 o4 o5 o6 o7 o8 hs lost ys f b (4 * ys.getD (lowN ys b).toNat 0)) ∧
  ∀ z, z = topV ys b → (0 : Int) < 8 ∧ (0 ≤ b ∧ b < ((5 : Nat) : Int) ∧ b < 1000) ∧ ∃ f', f' = qAt ys n ∧ ledN o0 o1 o2 o3 o4 o5 o6 o7 o8 hs ys (setN (f5 f) b.toNat (.tup [.int (rn z 8), .int (rd z 8)])) = ledN o0 o1 o2 o3 o4 o5 o6 o7 o8 hs ys (f5 f') ∧ locN lost ys True
noncomputable def nmsN : List SV := [.str "Min.", .str "1st Qu.", .str "Median", .str "Mean", .str "3rd Qu.", .str "Max."]
noncomputable def retN (ys : List Int) (f : Nat → SV) (m : SV) (l1 l2 : List SV) : Prop := K (.tup [.str "double", .own 19, .own 21]) (ledN o0 o1 o2 o3 o4 o5 o6 o7 o8 hs ys (f5 f) ++ [.list (.lit nmsN), .list (.lit [f 0, f 1, f 2]), .list (.lit [m]), .list (.lit [f 0, f 1, f 2, m]), .list (.lit [f 3, f 4]), .list (.lit [f 0, f 1, f 2, m, f 3, f 4]), .list (.lit l1), .list (.lit ([f 0, f 1, f 2, m, f 3, f 4] ++ l1)), .list (.lit l2), .list (.lit (nmsN ++ l2))])
noncomputable def endN (ys : List Int) (f : Nat → SV) : Prop := brn (decide (0 < ((SL.ints ys).len : Int))) (IntMulOk 2 (ys.length : Int) ∧ 0 < 2 * (ys.length : Int) ∧ ∃ m, m = meanF ys ∧ ledN o0 o1 o2 o3 o4 o5 o6 o7 o8 hs ys (f5 f) = ledN o0 o1 o2 o3 o4 o5 o6 o7 o8 hs ys (f5 f) ∧ locN lost ys (some (SV.tup [.int (rn ys.sum (2 * (ys.length : Int))), .int (rd ys.sum (2 * (ys.length : Int)))]) = some m ∧ True))
    (∃ m, m = meanF ys ∧ ledN o0 o1 o2 o3 o4 o5 o6 o7 o8 hs ys (f5 f) = ledN o0 o1 o2 o3 o4 o5 o6 o7 o8 hs ys (f5 f) ∧ locN lost ys (some (SV.tup [.int 0, .int 0]) = some m ∧ True)) ∧
  ∀ m, m = meanF ys → True ∧ True ∧ brn (decide (0 < lost)) (brn (decide (0 < lost)) (retN o0 o1 o2 o3 o4 o5 o6 o7 o8 hs K ys f m [.tup [.int lost, .int 1]] [.str "NA's"]) (retN o0 o1 o2 o3 o4 o5 o6 o7 o8 hs K ys f m [.tup [.int lost, .int 1]] []))
    (brn (decide (0 < lost)) (retN o0 o1 o2 o3 o4 o5 o6 o7 o8 hs K ys f m [] [.str "NA's"]) (retN o0 o1 o2 o3 o4 o5 o6 o7 o8 hs K ys f m [] []))
theorem vNums : (hs.length < 64 ∧ ∀ ys : List Int, ys.Perm hs → ys.Pairwise (· ≤ ·) → ys.length ≤ 1000 ∧ (0 ≤ rowN ys ∧ rowN ys ≤ 1000) ∧ (∃ f, f = qAt ys 0 ∧ ledN o0 o1 o2 o3 o4 o5 o6 o7 o8 hs ys [.none, .none, .none, .none, .none] = ledN o0 o1 o2 o3 o4 o5 o6 o7 o8 hs ys (f5 f) ∧ locN lost ys True) ∧ (∀ _ : Nat → SV, True) ∧
    (∀ (done : List Int) (b : Int) (rest : List Int) (f : Nat → SV), rangeL (rowN ys) = done ++ b :: rest → f = qAt ys done.length → turnN o0 o1 o2 o3 o4 o5 o6 o7 o8 hs lost ys (done ++ [b]).length b f) ∧ ∀ f, f = qAt ys (rangeL (rowN ys)).length → endN o0 o1 o2 o3 o4 o5 o6 o7 o8 hs lost K ys f) →
  bodyW (c0 [(372, sLow)] [(298, iTop), (294, iQ), (301, iMean)]) (fnSc (fnAt 55)) (fnBody (fnAt 55)) ⟨(fnParams (fnAt 55)).zip [.own 9, .int lost], [o0, o1, o2, o3, o4, o5, o6, o7, o8, .list (.ints hs)]⟩ (kOf K) := Eq.mp (by kernel_rfl)
end
set_option maxRecDepth 100000
theorem rangeL_split {n : Int} {done rest : List Int} {b : Int} (h : rangeL n = done ++ b :: rest) : b = (done.length : Int) ∧ done.length < n.toNat := by
  have hl : done.length < (rangeL n).length := by rw [h]; simp
  have hn : (rangeL n).length = n.toNat := by simp [rangeL]
  rw [hn] at hl
  have e : (rangeL n)[done.length]? = some b := by rw [h]; simp
  rw [rangeL, List.getElem?_map, List.getElem?_range hl] at e
  exact ⟨(Option.some.inj e).symm, hl⟩
theorem rowN_nil : rowN [] = 0 := rfl
theorem rowN_cons (y : Int) (r : List Int) : rowN (y :: r) = 5 := by
  unfold rowN
  rw [decide_eq_true (show (0 : Int) < ((SL.ints (y :: r)).len : Int) from Int.ofNat_lt.mpr (Nat.succ_pos _))]
  rfl
theorem row_bounds {l b : Int} (hb : 0 ≤ b) (h4 : b ≤ 4) (hl : 0 < l) : 0 ≤ b * (l - 1) ∧ b * (l - 1) ≤ 4 * (l - 1) := ⟨Int.mul_nonneg hb (by omega), Int.mul_le_mul_of_nonneg_right h4 (by omega)⟩
section
variable {o0 o1 o2 o3 o4 o5 o6 o7 o8 : SO} {hs : List Int} {lost : Int} {K : SV → List SO → Prop}
theorem turnN_of {ys : List Int} {n : Nat} (hl : 0 < ys.length) (h7 : ys.length ≤ 7) (hn : n < 5) : turnN o0 o1 o2 o3 o4 o5 o6 o7 o8 hs lost ys (n + 1) (n : Int) (qAt ys n) := by
  have hb : (0 : Int) ≤ n ∧ (n : Int) ≤ 4 := by omega
  obtain ⟨b0, b4⟩ := row_bounds (l := (ys.length : Int)) hb.1 hb.2 (by omega)
  have e1 : lowN ys n = (n : Int) * ((ys.length : Int) - 1) / 4 := Int.fdiv_eq_ediv_of_nonneg _ (by decide)
  have e2 : resN ys n = (n : Int) * ((ys.length : Int) - 1) % 4 := Int.fmod_eq_emod_of_nonneg _ (by decide)
  have et : 4 * ys.getD (lowN ys n).toNat 0 + resN ys n * (ys.getD (lowN ys n + 1).toNat 0 - ys.getD (lowN ys n).toNat 0) = topV ys n := by rw [e1, e2]; rfl
  have bd : 0 ≤ lowN ys n ∧ lowN ys n < (ys.length : Int) ∧ lowN ys n < 1000 := by
    rw [e1]
    generalize (n : Int) * ((ys.length : Int) - 1) = X at *
    omega
  have r3 : 0 ≤ resN ys n ∧ resN ys n < 4 ∧ (0 < resN ys n → lowN ys n + 1 < (ys.length : Int)) := by
    rw [e1, e2]
    generalize (n : Int) * ((ys.length : Int) - 1) = X at *
    omega
  have k4 : ∀ z : Int, IntMulOk 4 z := fun z => ok_left (by decide) (by decide)
  refine ⟨ok_left hb.1 (by omega), by decide, ok_left hb.1 (by omega), by decide, bd, k4 _, brn_d (fun h => ⟨⟨by omega, r3.2.2 h, by omega⟩, bd, ok_left r3.1 (by omega), _, rfl, rfl, rfl, rfl, rfl, rfl, rfl, rfl, rfl, rfl, by rw [et], trivial⟩) fun h => ⟨_, rfl, rfl, rfl, rfl, rfl, rfl, rfl, rfl, rfl, rfl, ?_, trivial⟩, fun z hz => ⟨by decide, ⟨hb.1, by omega, by omega⟩, _, rfl, ?_, rfl, rfl, rfl, rfl, rfl, trivial⟩⟩
  · rw [← et, show resN ys n = 0 by omega, Int.zero_mul, Int.add_zero]
  · subst hz
    have : n = 0 ∨ n = 1 ∨ n = 2 ∨ n = 3 ∨ n = 4 := by omega
    rcases this with rfl | rfl | rfl | rfl | rfl <;> rfl
/-- what the numbers' law tells: the row's quarters, the mean, what lacks -/
noncomputable def numsI (ys : List Int) (lost : Int) : List SV := [qVal ys 0, qVal ys 1, qVal ys 2, meanF ys, qVal ys 3, qVal ys 4] ++ (if 0 < lost then [.tup [.int lost, .int 1]] else [])
noncomputable def numsN (lost : Int) : List SV := nmsN ++ (if 0 < lost then [.str "NA's"] else [])
theorem qAt_val (ys : List Int) (j : Nat) (hj : j < 5) : qAt ys (rangeL (rowN ys)).length j = qVal ys j := by
  cases ys with
  | nil => rw [rowN_nil]; unfold qAt; cases j <;> rfl
  | cons y r =>
    rw [rowN_cons]
    unfold qAt
    rw [show Nat.blt j (rangeL 5).length = true from Nat.ble_eq_true_of_le hj]
    rfl
noncomputable def sNums : Spec := fun args led K => on2 args fun v u => v = .own 9 ∧ asInt u fun lost => led.length = 10 ∧ asInts (atN led 9) fun hs => hs.length ≤ 7 ∧
  ∀ (ys : List Int) (g1 g2 g3 g4 g5 g6 g7 g8 g9 : SO), ys.Perm hs → ys.Pairwise (· ≤ ·) → K (.tup [.str "double", .own 19, .own 21]) (led ++ [.list (.ints ys), g1, g2, g3, g4, g5, g6, g7, g8, .list (.lit (numsI ys lost)), g9, .list (.lit (numsN lost))])
variable {prog : Program} {w : World} {b : Heap}
theorem led5 {led : List SO} {n : Nat} (h : led.length = n + 5) : ∃ a b c d e r, led = a :: b :: c :: d :: e :: r ∧ r.length = n := by
  obtain ⟨a, l1, e1, h1⟩ := unc h
  obtain ⟨b, l2, e2, h2⟩ := unc h1
  obtain ⟨c, l3, e3, h3⟩ := unc h2
  obtain ⟨d, l4, e4, h4⟩ := unc h3
  obtain ⟨e, l5, e5, h5⟩ := unc h4
  exact ⟨a, b, c, d, e, l5, by rw [e1, e2, e3, e4, e5], h5⟩
theorem led10 {led : List SO} (h : led.length = 10) : ∃ o0 o1 o2 o3 o4 o5 o6 o7 o8 o9, led = [o0, o1, o2, o3, o4, o5, o6, o7, o8, o9] := by
  obtain ⟨a, b, c, d, e, l, e1, h1⟩ := led5 (n := 5) h
  obtain ⟨f, g, i, j, k, m, e2, h2⟩ := led5 (n := 0) h1
  exact ⟨a, b, c, d, e, f, g, i, j, k, by rw [e1, e2, List.eq_nil_of_length_eq_zero h2]⟩
theorem nums_sp (S : Sta prog w b) : SpecOk prog w b 2 379 sNums :=
  fn_ok S (hc1 (low_sp S) hc0) (k := 55) (c := 378) (q := Str.ofString "_law_numbers") (m := mLaw) (by kernel_rfl) (by kernel_rfl) (by kernel_rfl) fun args led K h => by
    obtain ⟨_, _, rfl, rfl, h'⟩ := on2_of h
    obtain ⟨lost, rfl, h10, h⟩ := asInt_of h'
    obtain ⟨hs, e9, hl, hk⟩ := asInts_of h
    obtain ⟨o0, o1, o2, o3, o4, o5, o6, o7, o8, _, rfl⟩ := led10 h10
    obtain rfl := Option.some.inj e9
    refine ⟨by kernel_rfl, _, vNums o0 o1 o2 o3 o4 o5 o6 o7 o8 hs lost K ⟨by omega, fun ys hp hs' => ?_⟩⟩
    have hy : ys.length ≤ 7 := by rw [hp.length_eq]; exact hl
    have hr : 0 ≤ rowN ys ∧ rowN ys ≤ 5 := by
      cases ys with
      | nil => rw [rowN_nil]; omega
      | cons y r => rw [rowN_cons]; omega
    refine ⟨by omega, ⟨hr.1, by omega⟩, ⟨_, rfl, rfl, rfl, rfl, rfl, rfl, rfl, trivial⟩, fun _ => trivial, fun done b rest f e ef => ?_, fun f ef => ?_⟩
    · obtain ⟨rfl, hn⟩ := rangeL_split e
      subst ef
      rw [List.length_append]
      refine turnN_of ?_ hy (by omega)
      cases ys with
      | nil => rw [rowN_nil] at hn; exact absurd hn (Nat.not_lt_zero _)
      | cons y r => exact Nat.succ_pos _
    · subst ef
      have key : ∀ l1 l2, l1 = (if 0 < lost then [SV.tup [.int lost, .int 1]] else []) → l2 = (if 0 < lost then [SV.str "NA's"] else []) → retN o0 o1 o2 o3 o4 o5 o6 o7 o8 hs K ys (qAt ys (rangeL (rowN ys)).length) (meanF ys) l1 l2 := fun l1 l2 e1 e2 => by
        unfold retN
        have e : [qAt ys (rangeL (rowN ys)).length 0, qAt ys (rangeL (rowN ys)).length 1, qAt ys (rangeL (rowN ys)).length 2, meanF ys, qAt ys (rangeL (rowN ys)).length 3, qAt ys (rangeL (rowN ys)).length 4] ++ l1 = numsI ys lost := by
          rw [qAt_val ys 0 (by decide), qAt_val ys 1 (by decide), qAt_val ys 2 (by decide), qAt_val ys 3 (by decide), qAt_val ys 4 (by decide), e1]; rfl
        rw [e, show nmsN ++ l2 = numsN lost by rw [e2]; rfl]
        exact hk ys _ _ _ _ _ _ _ _ _ hp hs'
      refine ⟨brn_d (fun h => ⟨ok_left (by decide) (by decide), by have : (0 : Int) < ys.length := h; omega, _, rfl, rfl, rfl, rfl, rfl, rfl, rfl, ?_, trivial⟩) fun h => ⟨_, rfl, rfl, rfl, rfl, rfl, rfl, rfl, ?_, trivial⟩, fun m hm => ⟨trivial, trivial, ?_⟩⟩
      · cases ys with
        | nil => exact absurd h (by decide)
        | cons y r => rfl
      · cases ys with
        | nil => rfl
        | cons y r => exact absurd (Int.ofNat_lt.mpr (Nat.succ_pos _)) h
      · subst hm
        by_cases h : 0 < lost
        · rw [decide_eq_true h]
          exact key _ _ (by rw [if_pos h]) (by rw [if_pos h])
        · rw [decide_eq_false h]
          exact key _ _ (by rw [if_neg h]) (by rw [if_neg h])
end
set_option maxRecDepth 100000
noncomputable def sFromO : Spec := fun args led K => on1 args fun a => match a with
  | .none => K .none led
  | .int n => K (.tup [.int n, .int 1]) led
  | _ => False
noncomputable def frI (x : Option Int) : Option (Int × Int) := match x with
  | .none => .none
  | .some n => .some (n, 1)
noncomputable def iNum : Inv := .lcoints (List (Option Int)) (fun s _ => s.led) (fun a => .ofrs (a.map frI)) fun _ done a => a = done
noncomputable def iKept : Inv := .lcofrs (List Int) (fun s _ => s.led) (fun a => .frs (a.map half)) fun _ done a => done.filterMap id = a.map half
noncomputable def i30 : Spec := sInl (c0 [(220, sVec)] []) 30
noncomputable def i31 : Spec := sInl (c0 [(220, sVec)] []) 31
noncomputable def i36 : Spec := sInl (c0 [(125, sFromO)] [(158, iNum)]) 36
noncomputable def i38 : Spec := sInl (c0 [(264, i36), (271, sRO spMean)] []) 38
noncomputable def i42 : Spec := sInl (c0 [(264, i36), (292, sRO spLack), (285, sAsc), (299, sRO spQuant)] []) 42
noncomputable def i45 : Spec := sInl (c0 [(238, i31)] [])  45
noncomputable def i46 : Spec := sInl (c0 [(264, i36), (132, sIsna), (231, i30)] [(213, iKept)]) 46
noncomputable def i47 : Spec := sInl (c0 [(323, i46), (304, i42), (278, i38), (125, sFromO), (231, i30), (318, i45)] []) 47
noncomputable def i2 : Spec := sInl (c0 [] []) 2
noncomputable def i4 : Spec := sInl (c0 [(28, i2)] []) 4
noncomputable def cBn : Cfg := c0 [(42, i4), (330, i47)] []
set_option maxRecDepth 100000
noncomputable def pickS (s : St) (a : (Int × Int × List Int) × List Int) : List SO := (takeS s a.1).led
noncomputable def iPick : Inv := .lcints ((Int × Int × List Int) × List Int) pickS (fun a => .ints a.2) fun _ done a => takeP a.1 ∧ a.2.length = done.length ∧ ∀ p ∈ a.2, 0 ≤ p ∧ p < 6
noncomputable def isBl (V : Value) (XS : List Int) : Value → List Int → Prop := fun v xs => v = V ∧ xs = XS
noncomputable def cLaw (V : Value) (XS : List Int) : Cfg := ⟨glob, [(365, sTake)], [(317, iPick)], isBl V XS⟩
noncomputable def lawB : List Stmt := fnBody (fnAt 57)
noncomputable def lawSc : Sc := fnSc (fnAt 57)
set_option maxRecDepth 100000
section
variable (o : Nat → SO) (n : Nat) (l6 : SL) (k : Str)
noncomputable def vecA (k i a : SV) : SO := .idict [(xk, k), (xi, i), (xat, a), (Str.ofString "shared", .bool false), (Str.ofString "loose", .bool false)]
noncomputable def bLed (t : Bool) : List SO := [.tab t, o 1, o 2, o 3, o 4, o 5, .list l6, vecD (.str k) (.own 6) .none, .inst 220 7, o 9, o 10, o 11, o 12, o 13, o 14, o 15, o 16, o 17, o 18, o 19, o 20, o 21, .list (.lit [.tup [.none, .own 8]])]
/-- a vector with names, as with_names leaves it -/
noncomputable def resL (kd : Str) (items names : List SV) : List SO := [.list (.lit items), vecA (.str kd) (.own n) (.own (n + 6)), .inst 220 (n + 1), .list (.lit names), vecD (.str "character") (.own (n + 3)) .none, .inst 220 (n + 4), .sdict [(Str.ofString "names", .own (n + 5))]]
noncomputable def shares : SL := .lit [.tup [.int 0, .int 1], .tup [.int 1, .int 4], .tup [.int 1, .int 2], .tup [.int 3, .int 4], .tup [.int 1, .int 1]]
noncomputable def gB (a hs' : List Int) (x0 x1 x2 x3 x4 m : SV) (l1 l2 : List SV) : List SO := [.list (.frs (a.map half)), .list (.frs (a.map half)), vecD (.str "double") (.own (n + 1)) .none, .inst 220 (n + 2), .list shares, .list (.frs (hs'.map half)), .list (.lit [x0, x1, x2, x3, x4]), .list (.lit [x0, x1, x2]), .list (.lit [m]), .list (.lit [x0, x1, x2, m]), .list (.lit [x3, x4]),
  .list (.lit ([x0, x1, x2, m, x3, x4] ++ l1)), .list (.lit (nmsN ++ l2))] ++ resL (n + 13) "double" ([x0, x1, x2, m, x3, x4] ++ l1) (nmsN ++ l2)
noncomputable def q1V (hs' : List Int) (x y : Int) (C : SV → Prop) : Prop := ∃ (hs : List Int) (q : Int), SL.frs (hs'.map half) = SL.frs (hs.map half) ∧ hs.length ≤ 100 ∧ 0 ≤ q ∧ q ≤ 4 ∧ x = rn q 4 ∧ y = rd q 4 ∧ (some (SV.own (n + 5)) = some (SV.own (n + 5)) ∧ True) ∧ some (SO.list shares) = some (SO.list shares) ∧ C (qVal hs q)
noncomputable def tailB (a : List Int) (C : List Int → SV → SV → SV → SV → SV → SV → List SV → List SV → Prop) : Prop := (a.map half).length ≤ 1000 ∧ (a.map half).length ≤ 1000 ∧ ∃ hs : List Int, SL.frs (a.map half) = SL.frs (hs.map half) ∧ some (SO.tab true) = some (SO.tab true) ∧ ∃ hs : List Int, some (SO.list (.frs (a.map half))) = some (SO.list (.frs (hs.map half))) ∧ hs.length ≤ 7 ∧
  ∀ hs' : List Int, hs'.Perm hs → hs'.Pairwise (· ≤ ·) → q1V n hs' 0 1 fun x0 => q1V n hs' 1 4 fun x1 => q1V n hs' 1 2 fun x2 => q1V n hs' 3 4 fun x3 => q1V n hs' 1 1 fun x4 => True ∧ ∃ h5 : List Int, SL.frs (a.map half) = SL.frs (h5.map half) ∧ h5.length ≤ 100 ∧ True ∧ l6.len ≤ 1000 ∧ (a.map half).length ≤ 1000 ∧
    brn (decide (0 < (l6.len : Int) - ((SL.frs (a.map half)).len : Int))) (True ∧ True ∧ True ∧ True ∧ C hs' x0 x1 x2 x3 x4 (meanF h5) [.tup [.int ((l6.len : Int) - ((SL.frs (a.map half)).len : Int)), .int 1]] [.str "NA's"]) (True ∧ True ∧ C hs' x0 x1 x2 x3 x4 (meanF h5) [] [])
noncomputable def keptV (ws : List (Option (Int × Int))) (L : List SO) (C : List Int → Prop) : Prop := (∃ a : List Int, ([] : List (Option (Int × Int))).filterMap id = a.map half ∧ L = L ∧ (a.map half).map fr = []) ∧ (∀ _ : List Int, some (SO.list (.ofrs ws)) = some (SO.list (.ofrs ws))) ∧
  (∀ done, (∀ rest a, ws = done ++ none :: rest → done.filterMap id = List.map half a → True ∧ ∃ a' : List Int, (done ++ [none]).filterMap id = a'.map half ∧ L = L ∧ (a'.map half).map fr = (a.map half).map fr) ∧
    ∀ b rest a, ws = done ++ some b :: rest → done.filterMap id = List.map half a → 0 < b.2 ∧ True ∧ ∃ a' : List Int, (done ++ [some b]).filterMap id = a'.map half ∧ L = L ∧ (a'.map half).map fr = (a.map half).map fr ++ [.tup [.int b.1, .int b.2]]) ∧ ∀ a, ws.filterMap id = List.map half a → C a
noncomputable def numV (zs : List (Option Int)) (L : List SO) (C : List (Option Int) → Prop) : Prop := (∃ a : List (Option Int), a = [] ∧ L = L ∧ (a.map frI).map ofr = []) ∧ (∀ _ : List (Option Int), some (SO.list (.oints zs)) = some (SO.list (.oints zs))) ∧
  (∀ done, (∀ rest a, zs = done ++ none :: rest → a = done → True ∧ ∃ a', a' = done ++ [none] ∧ L = L ∧ (a'.map frI).map ofr = (a.map frI).map ofr ++ [.none]) ∧
    ∀ b rest a, zs = done ++ some b :: rest → a = done → True ∧ ∃ a', a' = done ++ [some b] ∧ L = L ∧ (a'.map frI).map ofr = (a.map frI).map ofr ++ [.tup [.int b, .int 1]]) ∧ ∀ a, a = zs → (a.map frI).length ≤ 1000 ∧ C a
theorem vB1 (ws : List (Option (Int × Int))) (K : SV → List SO → Prop) : (True ∧ ws.length ≤ 1000 ∧ keptV ws (bLed o (.ofrs ws) "double" true) fun a => tailB 23 (.ofrs ws) a fun hs' x0 x1 x2 x3 x4 m l1 l2 => K (.own 38) (bLed o (.ofrs ws) "double" false ++ gB 23 a hs' x0 x1 x2 x3 x4 m l1 l2)) →
  bodyW cBn (fnSc (fnAt 51)) (fnBody (fnAt 51)) ⟨(fnParams (fnAt 51)).zip [.none, .own 22, .none], bLed o (.ofrs ws) "double" true⟩ (kOf K) := Eq.mp (by kernel_rfl)
theorem vB0 (zs : List (Option Int)) (K : SV → List SO → Prop) : (True ∧ zs.length ≤ 1000 ∧ numV zs (bLed o (.oints zs) "integer" true ++ [.list (.lit [])]) fun a => (a.map frI).length ≤ 1000 ∧ keptV (a.map frI) (bLed o (.oints zs) "integer" true ++ [.list (.lit []), .list (.ofrs (a.map frI))]) fun a' => tailB 25 (.oints zs) a' fun hs' x0 x1 x2 x3 x4 m l1 l2 => K (.own 40) (bLed o (.oints zs) "integer" false ++ [.list (.lit []), .list (.ofrs (a.map frI))] ++ gB 25 a' hs' x0 x1 x2 x3 x4 m l1 l2)) →
  bodyW cBn (fnSc (fnAt 51)) (fnBody (fnAt 51)) ⟨(fnParams (fnAt 51)).zip [.none, .own 22, .none], bLed o (.oints zs) "integer" true⟩ (kOf K) := Eq.mp (by kernel_rfl)
end
set_option maxRecDepth 100000
theorem half_even (n : Int) : half (2 * n) = (n, 1) := by
  have h1 := red_eq (n := 2 * n) (d := 2) (n' := n) (d' := 1) (by decide) (by decide) (by omega)
  have e1 : rn n 1 = n := by simp [rn]
  have e2 : rd n 1 = 1 := by simp [rd]
  unfold half
  rw [h1.1, h1.2, e1, e2]
theorem sum_perm {a c : List Int} (h : a.Perm c) : a.sum = c.sum := by
  induction h with
  | nil => rfl
  | cons x _ ih => rw [List.sum_cons, List.sum_cons, ih]
  | swap x y l => simp only [List.sum_cons]; omega
  | trans _ _ h1 h2 => exact h1.trans h2
theorem meanF_perm {a c : List Int} (h : a.Perm c) : meanF a = meanF c := by
  have hs := sum_perm h
  have hl := h.length_eq
  cases a with
  | nil => rw [h.nil_eq]
  | cons x r =>
    cases c with
    | nil => cases hl
    | cons y t =>
      unfold meanF
      rw [hs, hl]
theorem q1V_of {n : Nat} {hs' : List Int} {x y : Int} {C : SV → Prop} (q : Int) (hl : hs'.length ≤ 7) (hq : 0 ≤ q ∧ q ≤ 4 ∧ x = rn q 4 ∧ y = rd q 4) (h : C (qVal hs' q)) : q1V n hs' x y C := ⟨hs', q, rfl, Nat.le_trans hl (by decide), hq.1, hq.2.1, hq.2.2.1, hq.2.2.2, ⟨rfl, trivial⟩, rfl, h⟩
theorem tailB_of {n : Nat} {l6 : SL} {a : List Int} {C : List Int → SV → SV → SV → SV → SV → SV → List SV → List SV → Prop} (ha : a.length ≤ 7) (h6 : l6.len ≤ 7)
    (h : ∀ hs' l1 l2, hs'.Perm a → hs'.Pairwise (· ≤ ·) → [qVal hs' 0, qVal hs' 1, qVal hs' 2, meanF a, qVal hs' 3, qVal hs' 4] ++ l1 = numsI hs' ((l6.len : Int) - (a.length : Int)) → nmsN ++ l2 = numsN ((l6.len : Int) - (a.length : Int)) → C hs' (qVal hs' 0) (qVal hs' 1) (qVal hs' 2) (qVal hs' 3) (qVal hs' 4) (meanF a) l1 l2) : tailB n l6 a C := by
  have hl : (a.map half).length = a.length := List.length_map _
  have hz : (a.map half).length ≤ 1000 := by omega
  refine ⟨hz, hz, a, rfl, rfl, a, rfl, ha, fun hs' hp hs => ?_⟩
  have h7 : hs'.length ≤ 7 := by rw [hp.length_eq]; exact ha
  refine q1V_of 0 h7 (by decide) (q1V_of 1 h7 (by decide) (q1V_of 2 h7 (by decide) (q1V_of 3 h7 (by decide) (q1V_of 4 h7 (by decide) ⟨trivial, a, rfl, by omega, trivial, by omega, hz, ?_⟩))))
  have e : ((SL.frs (a.map half)).len : Int) = (a.length : Int) := congrArg Nat.cast hl
  rw [e]
  have em : meanF hs' = meanF a := meanF_perm hp
  refine brn_d (fun p => ⟨trivial, trivial, trivial, trivial, h _ _ _ hp hs ?_ ?_⟩) fun p => ⟨trivial, trivial, h _ _ _ hp hs ?_ ?_⟩
  · unfold numsI; rw [if_pos p, em]
  · unfold numsN; rw [if_pos p]
  · unfold numsI; rw [if_neg p, em]
  · unfold numsN; rw [if_neg p]
theorem keptV_of {ws : List (Option (Int × Int))} {L : List SO} {C : List Int → Prop} (hw : ∀ b, some b ∈ ws → ∃ x, b = half x) (h : ∀ a, ws.filterMap id = List.map half a → C a) : keptV ws L C := by
  refine ⟨⟨[], rfl, rfl, rfl⟩, fun _ => rfl, fun done => ⟨fun rest a e ha => ⟨trivial, a, by rw [List.filterMap_append, ha]; simp, rfl, rfl⟩, fun b rest a e ha => ?_⟩, h⟩
  obtain ⟨x, rfl⟩ := hw b (by rw [e]; simp)
  exact ⟨rd2_pos x, trivial, a ++ [x], by rw [List.filterMap_append, ha]; simp, rfl, by simp [fr]⟩
theorem numV_of {zs : List (Option Int)} {L : List SO} {C : List (Option Int) → Prop} (hz : zs.length ≤ 1000) (h : C zs) : numV zs L C :=
  ⟨⟨[], rfl, rfl, rfl⟩, fun _ => rfl, fun done => ⟨fun rest a e ha => ⟨trivial, _, rfl, rfl, by rw [ha]; simp [frI, ofr]⟩, fun b rest a e ha => ⟨trivial, _, rfl, rfl, by rw [ha]; simp [frI, ofr, fr]⟩⟩, fun a e => by subst e; exact ⟨by rw [List.length_map]; exact hz, h⟩⟩
noncomputable def asOints (o : Option SO) (f : List (Option Int) → Prop) : Prop := match o with
  | .some (.list (.oints xs)) => f xs
  | _ => False
noncomputable def asOfrs (o : Option SO) (f : List (Option (Int × Int)) → Prop) : Prop := match o with
  | .some (.list (.ofrs xs)) => f xs
  | _ => False
noncomputable def outB (n : Nat) (led : List SO) (K : SV → List SO → Prop) (G : List SO) (hs' : List Int) (lost : Int) : Prop := K (.own (n + 2)) (setN led 0 (.tab false) ++ (G ++ resL n "double" (numsI hs' lost) (numsN lost)))
theorem map_half_of {zs : List (Option Int)} : (zs.map (Option.map half)).filterMap id = (zs.filterMap id).map half := by
  induction zs with
  | nil => rfl
  | cons x r ih => cases x with
    | none => exact ih
    | some x => show half x :: _ = half x :: _; rw [ih]
noncomputable def g13 (g : Nat → SO) : List SO := [g 0, g 1, g 2, g 3, g 4, g 5, g 6, g 7, g 8, g 9, g 10, g 11, g 12]
noncomputable def g15 (g : Nat → SO) : List SO := [g 0, g 1, g 2, g 3, g 4, g 5, g 6, g 7, g 8, g 9, g 10, g 11, g 12, g 13, g 14]
noncomputable def outN (n : Nat) (G : (Nat → SO) → List SO) (ws : List (Option (Int × Int))) (led : List SO) (K : SV → List SO → Prop) : Prop := (∀ b, some b ∈ ws → ∃ x, b = half x) ∧ ws.length ≤ 7 ∧
  ∀ (hs' : List Int) (g : Nat → SO) (kept : List Int), ws.filterMap id = kept.map half → hs'.Perm kept → hs'.Pairwise (· ≤ ·) → outB n led K (G g) hs' ((ws.length : Int) - (kept.length : Int))
noncomputable def sB1 : Spec := fun args led K => args = [.none, .own 22, .none] ∧ asOfrs (atN led 6) fun ws => led = bLed (fun i => led.getD i (.tab true)) (.ofrs ws) "double" true ∧ outN 36 g13 ws led K
noncomputable def sB0 : Spec := fun args led K => args = [.none, .own 22, .none] ∧ asOints (atN led 6) fun zs => led = bLed (fun i => led.getD i (.tab true)) (.oints zs) "integer" true ∧ outN 38 g15 (zs.map frI) led K
section
variable {led : List SO} {K : SV → List SO → Prop}
theorem b1_body (h : sB1 [.none, .own 22, .none] led K) : bodyW cBn (fnSc (fnAt 51)) (fnBody (fnAt 51)) ⟨(fnParams (fnAt 51)).zip [.none, .own 22, .none], led⟩ (kOf K) := by
  obtain ⟨-, h⟩ := h
  unfold asOfrs at h
  split at h <;> first | exact h.elim | skip
  rename_i ws _
  obtain ⟨e, hw, hl, hk⟩ := h
  obtain ⟨o, rfl⟩ : ∃ o, led = bLed o (.ofrs ws) "double" true := ⟨_, e⟩
  clear e
  refine vB1 o _ K ⟨trivial, by omega, keptV_of hw fun a ha => ?_⟩
  have h7 : a.length ≤ ws.length := by
    rw [← List.length_map (as := a) (f := half), ← ha]; exact List.length_filterMap_le _ _
  refine tailB_of (by omega) hl fun hs' l1 l2 hp hs e1 e2 => ?_
  have := hk hs' (fun i => (gB 23 a hs' (qVal hs' 0) (qVal hs' 1) (qVal hs' 2) (qVal hs' 3) (qVal hs' 4) (meanF a) l1 l2).getD i (.tab true)) a ha hp hs
  unfold outB at this
  rw [show (ws.length : Int) = ((SL.ofrs ws).len : Int) from rfl, ← e1, ← e2] at this
  exact this
theorem b0_body (h : sB0 [.none, .own 22, .none] led K) : bodyW cBn (fnSc (fnAt 51)) (fnBody (fnAt 51)) ⟨(fnParams (fnAt 51)).zip [.none, .own 22, .none], led⟩ (kOf K) := by
  obtain ⟨-, h⟩ := h
  unfold asOints at h
  split at h <;> first | exact h.elim | skip
  rename_i zs _
  obtain ⟨e, hw, hl, hk⟩ := h
  obtain ⟨o, rfl⟩ : ∃ o, led = bLed o (.oints zs) "integer" true := ⟨_, e⟩
  clear e
  rw [List.length_map] at hl
  refine vB0 o _ K ⟨trivial, by omega, numV_of (by omega) ⟨by rw [List.length_map]; omega, keptV_of hw fun a ha => ?_⟩⟩
  have h7 : a.length ≤ zs.length := by
    rw [← List.length_map (as := a) (f := half), ← ha, ← List.length_map (as := zs) (f := frI)]; exact List.length_filterMap_le _ _
  refine tailB_of (by omega) (show zs.length ≤ 7 from hl) fun hs' l1 l2 hp hs e1 e2 => ?_
  have := hk hs' (fun i => ([SO.list (.lit []), .list (.ofrs (zs.map frI))] ++ gB 25 a hs' (qVal hs' 0) (qVal hs' 1) (qVal hs' 2) (qVal hs' 3) (qVal hs' 4) (meanF a) l1 l2).getD i (.tab true)) a ha hp hs
  unfold outB at this
  rw [show ((zs.map frI).length : Int) = ((SL.oints zs).len : Int) from congrArg Nat.cast (List.length_map _), ← e1, ← e2] at this
  exact this
end
set_option maxRecDepth 100000
theorem vFrom0 (led : List SO) (K : SV → List SO → Prop) : K .none led → bodyW (c0 [] []) (fnSc (fnAt 17)) (fnBody (fnAt 17)) ⟨(fnParams (fnAt 17)).zip [.none], led⟩ (kOf K) := Eq.mp (by kernel_rfl)
noncomputable abbrev mVal : Value := .str (Str.ofString "vectorcove.values") 406
noncomputable abbrev mAtt : Value := .str (Str.ofString "vectorcove.attrs") 194
noncomputable abbrev mDsp : Value := .str (Str.ofString "vectorcove.dispcalls") 556
section
variable {prog : Program} {w : World} {b : Heap} {lv : Nat}
theorem fromO_sp (S : Sta prog w b) : SpecOk prog w b 1 125 sFromO :=
  fn_ok S (hc0) (k := 17) (c := 124) (q := Str.ofString "from_int") (m := mRat) (by kernel_rfl) (by kernel_rfl) (by kernel_rfl) fun args led K h => by
    have h' := on1_of (show on1 args fun a => match a with | .none => K .none led | .int n => K (.tup [.int n, .int 1]) led | _ => False from h)
    obtain ⟨x, rfl, h⟩ := h'
    cases x <;> first | exact False.elim h | skip
    · exact ⟨by kernel_rfl, _, vFrom0 led K h⟩
    · exact ⟨by kernel_rfl, _, vFrom _ led K h⟩
theorem inl2 {call : List (Nat × Spec)} {inv : List (Nat × Inv)} (S : Sta prog w b) (HC : ∀ p ∈ call, SpecOk prog w b lv p.1 p.2) {a k c : Nat} {q : Str} {m : Value} (hl : (heapK w.params).lookup a = some (fnOb (fnAt k) q .none .none .none m none (.ref c) .none 0)) (hg : fnGood (fnAt k) = true) (hc : codeIn (heapK w.params) (.ref c) q = true) : SpecOk prog w b (lv + 1) a (sInl (c0 call inv) k) :=
  inl_ok (Cf := c0 call inv) S (fun _ _ h => h.elim) (glob_ok w) HC hl hg hc
theorem hcu {a n : Nat} {sp : Spec} {r : List (Nat × Spec)} (x : SpecOk prog w b n a sp) (y : ∀ p ∈ r, SpecOk prog w b lv p.1 p.2) (l : n ≤ lv := by decide) : ∀ p ∈ (a, sp) :: r, SpecOk prog w b lv p.1 p.2 := hc1 (x.up l) y
variable (S : Sta prog w b)
include S
theorem s2 : SpecOk prog w b 1 28 i2 := inl2 S hc0 (c := 27) (q := Str.ofString "get_attr") (m := mAtt) (by kernel_rfl) (by kernel_rfl) (by kernel_rfl)
theorem s4 : SpecOk prog w b 2 42 i4 := inl2 S (hc1 (s2 S) hc0) (c := 41) (q := Str.ofString "class_attr") (m := mAtt) (by kernel_rfl) (by kernel_rfl) (by kernel_rfl)
theorem s30 : SpecOk prog w b 3 231 i30 := inl2 S (hc1 (vec_sp (lv := 0) S) hc0) (c := 230) (q := Str.ofString "double") (m := mVal) (by kernel_rfl) (by kernel_rfl) (by kernel_rfl)
theorem s31 : SpecOk prog w b 3 238 i31 := inl2 S (hc1 (vec_sp (lv := 0) S) hc0) (c := 237) (q := Str.ofString "character") (m := mVal) (by kernel_rfl) (by kernel_rfl) (by kernel_rfl)
theorem s36 : SpecOk prog w b 2 264 i36 := inl2 S (hc1 (fromO_sp S) hc0) (c := 263) (q := Str.ofString "number_items") (m := mSum) (by kernel_rfl) (by kernel_rfl) (by kernel_rfl)
theorem s38 : SpecOk prog w b 6 278 i38 := inl2 S (hcu (s36 S) (hc1 (mean_sp S) hc0)) (c := 277) (q := Str.ofString "mean_of") (m := mSum) (by kernel_rfl) (by kernel_rfl) (by kernel_rfl)
theorem s42 : SpecOk prog w b 6 304 i42 := inl2 S (hcu (s36 S) (hcu (lack_sp S) (hcu (asc_sp S) (hc1 (quant_sp S) hc0)))) (c := 303) (q := Str.ofString "quantile7") (m := mSum) (by kernel_rfl) (by kernel_rfl) (by kernel_rfl)
theorem s45 : SpecOk prog w b 4 318 i45 := inl2 S (hc1 (s31 S) hc0) (c := 317) (q := Str.ofString "with_names") (m := mDsp) (by kernel_rfl) (by kernel_rfl) (by kernel_rfl)
theorem s46 : SpecOk prog w b 4 323 i46 := inl2 S (hcu (s36 S) (hcu (isna_sp S) (hc1 (s30 S) hc0))) (c := 322) (q := Str.ofString "kept_numbers") (m := mDsp) (by kernel_rfl) (by kernel_rfl) (by kernel_rfl)
theorem s47 : SpecOk prog w b 7 330 i47 := inl2 S (hcu (s46 S) (hcu (s42 S) (hcu (s38 S) (hcu (fromO_sp S) (hcu (s30 S) (hcu (s45 S) hc0)))))) (c := 329) (q := Str.ofString "summary_numbers") (m := mDsp) (by kernel_rfl) (by kernel_rfl) (by kernel_rfl)
theorem bn_ok {sp : Spec} (h : ∀ args led K, sp args led K → args = [.none, .own 22, .none] ∧ bodyW cBn (fnSc (fnAt 51)) (fnBody (fnAt 51)) ⟨(fnParams (fnAt 51)).zip [.none, .own 22, .none], led⟩ (kOf K)) : SpecOk prog w b 8 358 sp :=
  fn_ok (call := [(42, i4), (330, i47)]) S (hcu (s4 S) (hc1 (s47 S) hc0)) (k := 51) (c := 357) (q := Str.ofString "b_summary") (m := mDsp) (by kernel_rfl) (by kernel_rfl) (by kernel_rfl) fun args led K x => by
    obtain ⟨rfl, hb⟩ := h args led K x
    exact ⟨by kernel_rfl, [], hb⟩
theorem b1_sp : SpecOk prog w b 8 358 sB1 := bn_ok (sp := sB1) S fun args led K h => ⟨h.1, b1_body (by have e := h.1; subst e; exact h)⟩
theorem b0_sp : SpecOk prog w b 8 358 sB0 := bn_ok (sp := sB0) S fun args led K h => ⟨h.1, b0_body (by have e := h.1; subst e; exact h)⟩
end
set_option maxRecDepth 100000
/-- an item that a comparison can tell: no object of the ledger -/
noncomputable def FlatV (v : SV) : Prop := ∃ d, itemD v = some d ∧ d.canLay0 = true ∧ d.depth ≤ 1
theorem flat_none : FlatV .none := ⟨_, rfl, rfl, Nat.zero_le _⟩
theorem flat_int (i : Int) : FlatV (.int i) := ⟨_, rfl, rfl, Nat.zero_le _⟩
theorem strOk_of (s : String) : PyData.strOk (Str.ofString s) = true := by
  rw [PyData.strOk, PySem.Str.ofString_eq_toList, List.all_toArray, List.all_eq_true]
  intro x hx
  obtain ⟨c, _, rfl⟩ := List.mem_map.mp hx
  rw [decide_eq_true_eq]
  have := c.valid
  simp only [UInt32.isValidChar, Nat.isValidChar] at this
  have e : c.toNat = c.val.toNat := rfl
  omega
theorem flat_str (x : String) : FlatV (.str (Str.ofString x)) := ⟨_, rfl, strOk_of x, Nat.zero_le _⟩
theorem flat_fr (a c : Int) : FlatV (.tup [.int a, .int c]) := ⟨_, rfl, rfl, Nat.le_refl _⟩
theorem flat_all : ∀ {l : List SV}, (∀ v ∈ l, FlatV v) → ∃ ds, itemsD l = some ds ∧ PyData.canLayAll0 ds = true ∧ PyData.depthAll ds ≤ 1
  | [], _ => ⟨[], rfl, rfl, Nat.zero_le _⟩
  | v :: r, h => by
    obtain ⟨d, e1, e2, e3⟩ := h v List.mem_cons_self
    obtain ⟨ds, f1, f2, f3⟩ := flat_all fun v hv => h v (List.mem_cons_of_mem _ hv)
    refine ⟨d :: ds, by unfold itemsD; rw [e1, f1], ?_, ?_⟩
    · show (d.canLay0 && PyData.canLayAll0 ds) = true
      rw [e2, f2]; rfl
    · show max d.depth (PyData.depthAll ds) ≤ 1
      omega
theorem vals3 {led : List SO} {k : Str} {i j : Nat} {l n : SL} {dl dn : List PyData} (h1 : itemOf led i = some l) (h2 : itemOf led j = some n) (e1 : itemsD l.den = some dl) (e2 : itemsD n.den = some dn) : valsD led [.str k, .own i, .own j] = some [.str k, .list dl, .list dn] := by
  simp only [valsD, valD, h1, h2, e1, e2, itemD, elemD]
theorem told_fin {led : List SO} {k : Str} {i j i' j' : Nat} {l n l' n' : SL} {K : Bool → Prop} (hk : PyData.strOk k = true) (h1 : itemOf led i = some l) (h2 : itemOf led j = some n) (h3 : itemOf led i' = some l') (h4 : itemOf led j' = some n') (fl : ∀ v ∈ l.den, FlatV v) (fn : ∀ v ∈ n.den, FlatV v) (h : K true) (el : l'.den = l.den := by rfl) (en : n'.den = n.den := by rfl) :
    ∃ x y, (valsD led [.str k, .own i, .own j] = some x ∧ valsD led [.str k, .own i', .own j'] = some y) ∧ (PySem.SeqAt.shaped (.tuple x) = true ∧ PySem.SeqAt.shaped (.tuple y) = true) ∧ K (PyData.eqv (.tuple x) (.tuple y)) := by
  obtain ⟨dl, e1, e2, e3⟩ := flat_all fl
  obtain ⟨dn, f1, f2, f3⟩ := flat_all fn
  have c : PyData.canLay0 (.tuple [.str k, .list dl, .list dn]) = true := by
    show (PyData.strOk k && (PyData.canLayAll0 dl && (PyData.canLayAll0 dn && true))) = true
    rw [hk, e2, f2]; rfl
  have s : PySem.SeqAt.shaped (.tuple [.str k, .list dl, .list dn]) = true := by
    unfold PySem.SeqAt.shaped
    rw [c, Bool.true_and, decide_eq_true_iff]
    show max 0 (max (PyData.depthAll dl + 1) (max (PyData.depthAll dn + 1) 0)) + 1 ≤ 64
    omega
  refine ⟨_, _, ⟨vals3 h1 h2 e1 f1, vals3 h3 h4 (el ▸ e1) (en ▸ f1)⟩, ⟨s, s⟩, ?_⟩
  rw [PySem.SeqAt.eqv_refl _ c]; exact h
theorem qVal_flat (ys : List Int) (q : Int) : FlatV (qVal ys q) := by
  cases ys with
  | nil => exact flat_none
  | cons _ _ => exact flat_fr _ _
theorem meanF_flat (ys : List Int) : FlatV (meanF ys) := by
  cases ys <;> exact flat_fr _ _
theorem numsI_flat (ys : List Int) (lost : Int) : ∀ v ∈ numsI ys lost, FlatV v := fun v hv => by
  rcases List.mem_append.mp hv with hv | hv
  · simp only [List.mem_cons, List.not_mem_nil, or_false] at hv
    rcases hv with rfl | rfl | rfl | rfl | rfl | rfl <;> first | exact qVal_flat _ _ | exact meanF_flat _
  · split at hv
    · rw [List.mem_singleton.mp hv]; exact flat_fr _ _
    · cases hv
theorem flat_strs {l : List String} : ∀ v ∈ l.map (fun x => SV.str (Str.ofString x)), FlatV v := fun v hv => by
  obtain ⟨x, hx, rfl⟩ := List.mem_map.mp hv
  exact flat_str x
theorem numsN_flat (lost : Int) : ∀ v ∈ numsN lost, FlatV v := fun v hv => by
  rcases List.mem_append.mp hv with hv | hv
  · exact flat_strs (l := ["Min.", "1st Qu.", "Median", "Mean", "3rd Qu.", "Max."]) v hv
  · split at hv
    · rw [List.mem_singleton.mp hv]; exact flat_str _
    · cases hv
set_option maxRecDepth 100000
noncomputable def z0 (p : Int) : Option Int := if p = 5 then none else some (3 * p - 4)
noncomputable def g1 (p : Int) : Option Int := if p = 5 then none else some ([0, 1, -3, 14, -4].getD p.toNat 0)
noncomputable def dbl (x : Option Int) : Option Int := x.map (2 * ·)
noncomputable def iO (f : Int → Option Int) : Inv := .lcints (List (Option Int)) (fun s _ => s.led) (fun a => .oints a) fun _ done a => a = done.map f
noncomputable def iH (f : Int → Option Int) : Inv := .lcints (List (Option Int)) (fun s _ => s.led) (fun a => .ofrs (a.map (Option.map half))) fun _ done a => a = done.map f
noncomputable def iF (f : Int → Option Int) : Inv := .lcints (List Int) (fun s _ => s.led) (fun a => .ints a) fun _ done a => a = done.filterMap f
noncomputable def cF0 : Cfg := c0 [(220, sVec), (379, sNums), (358, sB0)] [(320, iO z0), (321, iF fun p => dbl (z0 p))]
noncomputable def cF1 : Cfg := c0 [(220, sVec), (379, sNums), (358, sB1)] [(323, iH g1), (324, iF g1)]
noncomputable def lawLoc (v0 v1 : SV) (f m lost : Int) : List (Str × SV) := [(Str.ofString "script", v0), (Str.ofString "source", v1), (Str.ofString "form", SV.int f), (Str.ofString "many", SV.int m), (Str.ofString "picks", SV.own (5 : Nat)), (Str.ofString "lost", SV.int lost)]
section
variable (o1 o2 o3 o4 : SO) (ps : List Int)
/-- a comprehension over the picks that turns no object -/
noncomputable def lcV {α : Type} (den : α → List SV) (len : α → Nat) (P : List Int → α → Prop) (L : List SO) (T : List Int → Int → α → Prop) (C : α → Prop) : Prop := ps.length ≤ 1000 ∧ (∃ a, P [] a ∧ L = L ∧ den a = []) ∧ (∀ _ : α, some (SO.list (.ints ps)) = some (SO.list (.ints ps))) ∧
  (∀ done b rest a, ps = done ++ b :: rest → P done a → T done b a) ∧ ∀ a, P ps a → len a ≤ 1000 ∧ C a
noncomputable def addV {α : Type} (den : α → List SV) (P : List Int → α → Prop) (L : List SO) (done : List Int) (b : Int) (a : α) (y : SV) : Prop := True ∧ ∃ a', P (done ++ [b]) a' ∧ L = L ∧ den a' = den a ++ [y]
noncomputable def skipV {α : Type} (den : α → List SV) (P : List Int → α → Prop) (L : List SO) (done : List Int) (b : Int) (a : α) : Prop := True ∧ ∃ a', P (done ++ [b]) a' ∧ L = L ∧ den a' = den a
noncomputable def fL0 : List SO := [.tab true, o1, o2, o3, o4, .list (.ints ps)]
noncomputable def fL1 (k : Str) (l6 : SL) : List SO := fL0 o1 o2 o3 o4 ps ++ [.list l6, vecD (.str k) (.own 6) .none, .inst 220 7]
noncomputable def fL2 (k : Str) (l6 : SL) (a2 ys : List Int) (lost : Int) (g1 g2 g3 g4 g5 g6 g7 g8 g9 : SO) : List SO := fL1 o1 o2 o3 o4 ps k l6 ++ [.list (.ints a2), .list (.ints ys), g1, g2, g3, g4, g5, g6, g7, g8, .list (.lit (numsI ys lost)), g9, .list (.lit (numsN lost)), .list (.lit [.tup [.none, .own 8]])]
/-- the numbers' law, the summary and their comparison -/
noncomputable def cmpN (n : Nat) (L : List SO) (K : SV → List SO → Prop) : Prop := ∃ x y, (valsD L [.str "double", .own n, .own (n + 3)] = some x ∧ valsD L [.str "double", .own 19, .own 21] = some y) ∧ (PySem.SeqAt.shaped (.tuple x) = true ∧ PySem.SeqAt.shaped (.tuple y) = true) ∧ K (.bool (PyData.eqv (.tuple x) (.tuple y))) L
noncomputable def tailN (n : Nat) (k : Str) (l6 : SL) (ws : List (Option (Int × Int))) (a2 : List Int) (lost : Int) (G : (Nat → SO) → List SO) (K : SV → List SO → Prop) : Prop := .own 9 = SV.own 9 ∧ (10 : Nat) = 10 ∧ a2.length ≤ 7 ∧ ∀ (ys : List Int) (g1 g2 g3 g4 g5 g6 g7 g8 g9 : SO), ys.Perm a2 → ys.Pairwise (· ≤ ·) →
  [SV.none, .own 22, .none] = [SV.none, .own 22, .none] ∧ fL2 o1 o2 o3 o4 ps k l6 a2 ys lost g1 g2 g3 g4 g5 g6 g7 g8 g9 = bLed (fun i => (fL2 o1 o2 o3 o4 ps k l6 a2 ys lost g1 g2 g3 g4 g5 g6 g7 g8 g9).getD i (.tab true)) l6 k true ∧ (∀ b, some b ∈ ws → ∃ x, b = half x) ∧ ws.length ≤ 7 ∧
  ∀ (hs' : List Int) (g : Nat → SO) (kept : List Int), ws.filterMap id = kept.map half → hs'.Perm kept → hs'.Pairwise (· ≤ ·) →
    cmpN n (setN (fL2 o1 o2 o3 o4 ps k l6 a2 ys lost g1 g2 g3 g4 g5 g6 g7 g8 g9) 0 (.tab false) ++ (G g ++ resL n "double" (numsI hs' ((ws.length : Int) - (kept.length : Int))) (numsN ((ws.length : Int) - (kept.length : Int))))) K
theorem vF0 (v0 v1 : SV) (m lost : Int) (K : SV → List SO → Prop) : lcV ps (List.map oin) List.length (fun done a => a = done.map z0) (fL0 o1 o2 o3 o4 ps) (fun done b a => brn (decide (b = 5)) (addV (List.map oin) (fun done a => a = done.map z0) (fL0 o1 o2 o3 o4 ps) done b a .none) (IntMulOk 3 b ∧ addV (List.map oin) (fun done a => a = done.map z0) (fL0 o1 o2 o3 o4 ps) done b a (.int (3 * b - 4))))
    (fun a => lcV ps (List.map SV.int) List.length (fun done a => a = done.filterMap fun p => dbl (z0 p)) (fL1 o1 o2 o3 o4 ps "integer" (.oints a)) (fun done b a2 => brn (!decide (b = 5)) (IntMulOk 3 b ∧ IntMulOk 2 (3 * b - 4) ∧ addV (List.map SV.int) (fun done a => a = done.filterMap fun p => dbl (z0 p)) (fL1 o1 o2 o3 o4 ps "integer" (.oints a)) done b a2 (.int (2 * (3 * b - 4)))) (skipV (List.map SV.int) (fun done a => a = done.filterMap fun p => dbl (z0 p)) (fL1 o1 o2 o3 o4 ps "integer" (.oints a)) done b a2))
      fun a2 => tailN o1 o2 o3 o4 ps 38 "integer" (.oints a) (a.map frI) a2 lost g15 K) →
  exsW cF0 (bun cF0 30) lawSc (lawB.drop 5) ⟨lawLoc v0 v1 0 m lost, fL0 o1 o2 o3 o4 ps⟩ (kOf K) := Eq.mp (by kernel_rfl)
theorem vF1 (v0 v1 : SV) (m lost : Int) (K : SV → List SO → Prop) : lcV ps (fun a => (a.map (Option.map half)).map ofr) (fun a => (a.map (Option.map half)).length) (fun done a => a = done.map g1) (fL0 o1 o2 o3 o4 ps) (fun done b a => brn (decide (b = 5)) (addV (fun a => (a.map (Option.map half)).map ofr) (fun done a => a = done.map g1) (fL0 o1 o2 o3 o4 ps) done b a .none)
      (0 ≤ b ∧ b < 1000 ∧ ∃ x, atN [SV.tup [.int 0, .int 1], .tup [.int 1, .int 2], .tup [.int (-3), .int 2], .tup [.int 7, .int 1], .tup [.int (-2), .int 1]] b.toNat = some x ∧ addV (fun a => (a.map (Option.map half)).map ofr) (fun done a => a = done.map g1) (fL0 o1 o2 o3 o4 ps) done b a x))
    (fun a => lcV ps (List.map SV.int) List.length (fun done a => a = done.filterMap g1) (fL1 o1 o2 o3 o4 ps "double" (.ofrs (a.map (Option.map half)))) (fun done b a2 => brn (!decide (b = 5)) (0 ≤ b ∧ b < 1000 ∧ ∃ x, atN [SV.int 0, .int 1, .int (-3), .int 14, .int (-4)] b.toNat = some x ∧ addV (List.map SV.int) (fun done a => a = done.filterMap g1) (fL1 o1 o2 o3 o4 ps "double" (.ofrs (a.map (Option.map half)))) done b a2 x) (skipV (List.map SV.int) (fun done a => a = done.filterMap g1) (fL1 o1 o2 o3 o4 ps "double" (.ofrs (a.map (Option.map half)))) done b a2))
      fun a2 => tailN o1 o2 o3 o4 ps 36 "double" (.ofrs (a.map (Option.map half))) (a.map (Option.map half)) a2 lost g13 K) →
  exsW cF1 (bun cF1 30) lawSc (lawB.drop 5) ⟨lawLoc v0 v1 1 m lost, fL0 o1 o2 o3 o4 ps⟩ (kOf K) := Eq.mp (by kernel_rfl)
end
set_option maxRecDepth 100000
section
variable {o1 o2 o3 o4 : SO} {ps : List Int} {L : List SO} {K : SV → List SO → Prop}
theorem lcMap_of {α : Type} {den : List α → List SV} {len : List α → Nat} {f : Int → α} (e : α → SV) {T : List Int → Int → List α → Prop} {C : List α → Prop} (hl : ps.length ≤ 7) (hd : ∀ a, den a = a.map e) (hn : ∀ a, len a = a.length)
    (hT : ∀ b ∈ ps, ∀ done a, addV den (fun done a => a = done.map f) L done b a (e (f b)) → T done b a) (hC : C (ps.map f)) : lcV ps den len (fun done a => a = done.map f) L T C :=
  ⟨by omega, ⟨[], rfl, rfl, by rw [hd]; rfl⟩, fun _ => rfl, fun done b rest a e ha => hT b (by rw [e]; simp) done a ⟨trivial, a ++ [f b], by rw [ha]; simp, rfl, by rw [hd, hd]; simp⟩, fun a ha => ha ▸ ⟨by rw [hn, List.length_map]; omega, hC⟩⟩
theorem lcFil_of {f : Int → Option Int} {T : List Int → Int → List Int → Prop} {C : List Int → Prop} (hl : ps.length ≤ 7)
    (hT : ∀ b ∈ ps, ∀ done a, (∀ z, f b = some z → addV (List.map SV.int) (fun done a => a = done.filterMap f) L done b a (.int z)) → (f b = none → skipV (List.map SV.int) (fun done a => a = done.filterMap f) L done b a) → T done b a) (hC : C (ps.filterMap f)) : lcV ps (List.map SV.int) List.length (fun done a => a = done.filterMap f) L T C :=
  ⟨by omega, ⟨[], rfl, rfl, rfl⟩, fun _ => rfl, fun done b rest a e ha => hT b (by rw [e]; simp) done a (fun z hz => ⟨trivial, a ++ [z], by show a ++ [z] = (done ++ [b]).filterMap f; rw [show a = done.filterMap f from ha, List.filterMap_append]; simp [hz], rfl, by simp⟩) fun hz => ⟨trivial, a, by show a = (done ++ [b]).filterMap f; rw [show a = done.filterMap f from ha, List.filterMap_append]; simp [hz], rfl, rfl⟩, fun a ha => ha ▸ ⟨Nat.le_trans (List.length_filterMap_le _ _) (by omega), hC⟩⟩
theorem tailN_of {n : Nat} {k : Str} {l6 : SL} {ws : List (Option (Int × Int))} {a2 : List Int} {lost : Int} {G : (Nat → SO) → List SO} (hw : ∀ b, some b ∈ ws → ∃ x, b = half x) (h7 : ws.length ≤ 7) (ha : ws.filterMap id = a2.map half) (hl : lost = (ws.length : Int) - (a2.length : Int))
    (hG : (n = 36 ∧ G = g13) ∨ (n = 38 ∧ G = g15)) (hK : ∀ L, (∃ o, atN L 0 = some (SO.tab o)) → K (.bool true) L) : tailN o1 o2 o3 o4 ps n k l6 ws a2 lost G K := by
  have h2 : a2.length ≤ 7 := by
    rw [← List.length_map (as := a2) (f := half), ← ha]; exact Nat.le_trans (List.length_filterMap_le _ _) h7
  refine ⟨rfl, rfl, h2, fun ys g1 g2 g3 g4 g5 g6 g7 g8 g9 hp hs => ⟨rfl, rfl, hw, h7, fun hs' g kept hk hp' hs2 => ?_⟩⟩
  obtain rfl := map_half_inj (ha.symm.trans hk)
  obtain rfl := lks_uniq (hp'.trans hp.symm) hs2 hs
  rw [← hl]
  rcases hG with ⟨rfl, rfl⟩ | ⟨rfl, rfl⟩ <;> exact told_fin (k := "double") (K := fun c => K (.bool c) _) (by decide +kernel) rfl rfl rfl rfl (numsI_flat _ _) (numsN_flat _) (hK _ ⟨_, rfl⟩)
theorem f0_ok {v0 v1 : SV} {m : Int} (h7 : ps.length ≤ 7) (hp : ∀ p ∈ ps, 0 ≤ p ∧ p < 6) (hK : ∀ L, (∃ o, atN L 0 = some (SO.tab o)) → K (.bool true) L) : exsW cF0 (bun cF0 30) lawSc (lawB.drop 5) ⟨lawLoc v0 v1 0 m (ps.count 5 : Nat), fL0 o1 o2 o3 o4 ps⟩ (kOf K) := by
  refine vF0 o1 o2 o3 o4 ps v0 v1 m _ K (lcMap_of oin h7 (fun _ => rfl) (fun _ => rfl) (fun b hb done a h => brn_d (fun e => ?_) fun e => ⟨ok_left (by decide) (by decide), ?_⟩) (lcFil_of h7 (fun b hb done a h1 h2 => ?_) (tailN_of (fun x hx => ?_) ?_ ?_ ?_ (.inr ⟨rfl, rfl⟩) hK)))
  · subst e; exact h
  · unfold z0 at h; rw [if_neg e] at h; exact h
  · by_cases e : b = 5
    · rw [decide_eq_true e]; exact h2 (by subst e; rfl)
    · rw [decide_eq_false e]
      exact ⟨ok_left (by decide) (by decide), ok_left (by decide) (by decide), h1 _ (by unfold z0; rw [if_neg e]; rfl)⟩
  · rw [List.mem_map] at hx
    obtain ⟨z, _, hz⟩ := hx
    cases z with
    | none => cases hz
    | some z => cases hz; exact ⟨2 * z, (half_even z).symm⟩
  · simp; exact h7
  · clear h7 hp
    induction ps with
    | nil => rfl
    | cons p r ih =>
      by_cases e : p = 5
      · subst e; exact ih
      · simp only [List.map_cons, List.filterMap_cons, z0, if_neg e, frI, dbl, Option.map_some, id, ih, half_even]
  · clear hp
    have : (ps.filterMap fun p => dbl (z0 p)).length + ps.count 5 = ps.length := by
      clear h7
      induction ps with
      | nil => rfl
      | cons p r ih =>
        by_cases e : p = 5
        · subst e; simp [z0, dbl] at ih ⊢; omega
        · simp [z0, dbl, e] at ih ⊢; omega
    simp only [List.length_map]; omega
theorem g1_cases {p : Int} (h : 0 ≤ p ∧ p < 6) : p = 0 ∨ p = 1 ∨ p = 2 ∨ p = 3 ∨ p = 4 ∨ p = 5 := by omega
theorem f1_ok {v0 v1 : SV} {m : Int} (h7 : ps.length ≤ 7) (hp : ∀ p ∈ ps, 0 ≤ p ∧ p < 6) (hK : ∀ L, (∃ o, atN L 0 = some (SO.tab o)) → K (.bool true) L) : exsW cF1 (bun cF1 30) lawSc (lawB.drop 5) ⟨lawLoc v0 v1 1 m (ps.count 5 : Nat), fL0 o1 o2 o3 o4 ps⟩ (kOf K) := by
  refine vF1 o1 o2 o3 o4 ps v0 v1 m _ K (lcMap_of (fun z => ofr (z.map half)) h7 (fun _ => by rw [List.map_map]; rfl) (fun _ => List.length_map _) (fun b hb done a h => brn_d (fun e => ?_) fun e => ⟨(hp b hb).1, by have := hp b hb; omega, ?_⟩) (lcFil_of h7 (fun b hb done a h1 h2 => ?_) (tailN_of (fun x hx => ?_) ?_ ?_ ?_ (.inl ⟨rfl, rfl⟩) hK)))
  · subst e; exact h
  · have := hp b hb
    have q : ∃ x, atN [SV.tup [.int 0, .int 1], .tup [.int 1, .int 2], .tup [.int (-3), .int 2], .tup [.int 7, .int 1], .tup [.int (-2), .int 1]] b.toNat = some x ∧ x = ofr ((g1 b).map half) := by
      rcases g1_cases this with rfl | rfl | rfl | rfl | rfl | rfl <;> first | exact absurd rfl e | exact ⟨_, rfl, by kernel_rfl⟩
    obtain ⟨x, e1, rfl⟩ := q
    exact ⟨_, e1, h⟩
  · by_cases e : b = 5
    · rw [decide_eq_true e]; exact h2 (by subst e; rfl)
    · rw [decide_eq_false e]
      have := hp b hb
      refine ⟨this.1, by omega, ?_⟩
      rcases g1_cases this with rfl | rfl | rfl | rfl | rfl | rfl <;> first | exact absurd rfl e | exact ⟨_, rfl, h1 _ rfl⟩
  · rw [List.mem_map] at hx
    obtain ⟨z, _, hz⟩ := hx
    cases z with
    | none => cases hz
    | some z => cases hz; exact ⟨z, rfl⟩
  · simp; exact h7
  · rw [map_half_of, List.filterMap_map]; rfl
  · clear hp
    have : (ps.filterMap g1).length + ps.count 5 = ps.length := by
      clear h7
      induction ps with
      | nil => rfl
      | cons p r ih =>
        by_cases e : p = 5
        · subst e; simp [g1] at ih ⊢; omega
        · simp [g1, e] at ih ⊢; omega
    simp only [List.length_map]; omega
end
set_option maxRecDepth 100000
noncomputable def xval : Str := Str.ofString "value"
noncomputable def t0 (p : Int) : Option Int := if p = 5 then none else some (p.fmod 2)
noncomputable def tStep (l : List SV × List SV) (c : Nat) (nm : Str) : List SV × List SV := if 0 < c then (l.1 ++ [.str (Str.ofString (toString (c : Int)))], l.2 ++ [.str nm]) else l
noncomputable def tT (xs : List (Option Int)) (k : Nat) : List SV × List SV :=
  let l0 := ([SV.str "logical"], [SV.str "Mode"])
  let l1 := tStep l0 (xs.count (some 0)) "FALSE"
  let l2 := tStep l1 (xs.count (some 1)) "TRUE"
  match k with
  | 0 => l0
  | 1 => l1
  | 2 => l2
  | _ => tStep l2 (xs.count none) "NA's"
noncomputable def tIx : SV → Nat
  | .int i => match i with
    | .ofNat 0 => 1
    | _ => 2
  | _ => 3
noncomputable def tV : SV → Option Int
  | .int i => some i
  | _ => none
noncomputable def valP (s : St) (P : SV → Prop) : Prop := match get s.loc xval with
  | .some v => P v
  | .none => False
noncomputable def iTr (xs : List (Option Int)) (i j : Nat) : Inv := .cut (List SV × List SV) (fun s a => { s with led := setN (setN s.led i (.list (.lit a.1))) j (.list (.lit a.2)) }) fun s a => valP s fun v => a = tT xs (tIx v)
noncomputable def iCnt : Inv := .oints Int (fun s z => { s with loc := put s.loc (Str.ofString "count") (.int z) }) fun s done z => valP s fun v => z = (done.count (tV v) : Nat)
noncomputable def i56 (xs : List (Option Int)) : Spec := sInl (c0 [] [(309, iTr xs 10 11)]) 56
noncomputable def i48 (xs : List (Option Int)) : Spec := sInl (c0 [(318, i45), (238, i31)] [(230, iCnt), (233, iTr xs 14 15)]) 48
noncomputable def iB2 (xs : List (Option Int)) : Spec := sInl (c0 [(337, i48 xs)] []) 51
noncomputable def cF2 (ps : List Int) : Cfg := c0 [(220, sVec), (386, i56 (ps.map t0)), (358, iB2 (ps.map t0))] [(326, iO t0)]
section
variable (o1 o2 o3 o4 : SO) (ps : List Int) (xs zs : List (Option Int)) (F : List SV × List SV → List SO)
noncomputable def trip : List SV := [.tup [.int 0, .str "FALSE"], .tup [.int 1, .str "TRUE"], .tup [.none, .str "NA's"]]
/-- a turn of the truths' law -/
noncomputable def cutT (k : Nat) (l : List SV × List SV) (v : SV) (nm : Str) : Prop := ∃ a, a = tT xs k ∧ F l = F a ∧ some (SV.own 9) = some (SV.own 9) ∧ some (SV.own 10) = some (SV.own 10) ∧ some (SV.own 11) = some (SV.own 11) ∧ some v = some v ∧ some (SV.str nm) = some (SV.str nm) ∧ True
noncomputable def stepT (c : Option Int) (k : Nat) (l : List SV × List SV) (v : SV) (nm : Str) (C : List SV × List SV → Prop) : Prop := (zs.length ≤ 1000 ∧ brn (decide (0 < ((zs.count c : Nat) : Int))) (zs.length ≤ 1000 ∧ (-1000000 ≤ ((zs.count c : Nat) : Int) ∧ ((zs.count c : Nat) : Int) ≤ 1000000) ∧ smallL (.lit l.1) ∧ smallL (.lit l.2) ∧
  cutT xs F k (l.1 ++ [.str (Str.ofString (toString ((zs.count c : Nat) : Int)))], l.2 ++ [.str nm]) v nm) (cutT xs F k l v nm)) ∧ ∀ a, a = tT xs k → some (SO.list (.lit trip)) = some (SO.list (.lit trip)) ∧ C a
/-- a turn of summary_truths -/
noncomputable def agB (v : SV) (nm : Str) (R : Prop) : Prop := some (SV.own 8) = some (SV.own 8) ∧ some (SV.own 14) = some (SV.own 14) ∧ some (SV.own 15) = some (SV.own 15) ∧ some v = some v ∧ some (SV.str nm) = some (SV.str nm) ∧ R
noncomputable def ctT (L : List SO) (c : Option Int) (v : SV) (nm : Str) (done : List (Option Int)) (x : Option Int) (z : Int) : Prop := ∃ a' : Int, a' = (((done ++ [x]).count c : Nat) : Int) ∧ L = L ∧ agB v nm (some (SV.int z) = some (.int a') ∧ True)
noncomputable def turnT (L : List SO) (c : Option Int) (v : SV) (nm : Str) : Prop := ∀ done, (∀ rest z, zs = done ++ none :: rest → z = ((done.count c : Nat) : Int) → match c with | none => ctT L c v nm done none (z + 1) | some _ => ctT L c v nm done none z) ∧
  ∀ b rest z, zs = done ++ some b :: rest → z = ((done.count c : Nat) : Int) → match c with | none => ctT L c v nm done (some b) z | some i => brn (decide (b = i)) (ctT L c v nm done (some b) (z + 1)) (ctT L c v nm done (some b) z)
noncomputable def cutB (k : Nat) (l : List SV × List SV) (v : SV) (nm : Str) (z : Int) : Prop := ∃ a, a = tT xs k ∧ F l = F a ∧ agB v nm (some (SV.int z) = some (.int z) ∧ True)
noncomputable def stepB (c : Option Int) (k : Nat) (l : List SV × List SV) (v : SV) (nm : Str) (C : List SV × List SV → Prop) : Prop := (∃ z : Int, z = 0 ∧ F l = F l ∧ agB v nm (some (SV.int 0) = some (.int z) ∧ True)) ∧ (∀ _ : Int, some (SO.list (.oints zs)) = some (SO.list (.oints zs))) ∧ turnT zs (F l) c v nm ∧
  ∀ z : Int, z = ((zs.count c : Nat) : Int) → brn (decide (0 < z)) ((-1000000 ≤ z ∧ z ≤ 1000000) ∧ smallL (.lit l.1) ∧ smallL (.lit l.2) ∧ cutB xs F k (l.1 ++ [.str (Str.ofString (toString z))], l.2 ++ [.str nm]) v nm z) (cutB xs F k l v nm z) ∧ ∀ a, a = tT xs k → True ∧ C a
noncomputable def fT (zs : List (Option Int)) (l : List SV × List SV) : List SO := fL1 o1 o2 o3 o4 ps "logical" (.oints zs) ++ [.list (.oints zs), .list (.lit l.1), .list (.lit l.2), .list (.lit trip)]
noncomputable def fB (zs : List (Option Int)) (l0 l : List SV × List SV) : List SO := fT o1 o2 o3 o4 ps zs l0 ++ [.list (.lit [.tup [.none, .own 8]]), .list (.lit l.1), .list (.lit l.2)]
noncomputable def cmpC (k : Str) (i j i' j' : Nat) (L : List SO) (K : SV → List SO → Prop) : Prop := ∃ x y, (valsD L [.str k, .own i, .own j] = some x ∧ valsD L [.str k, .own i', .own j'] = some y) ∧ (PySem.SeqAt.shaped (.tuple x) = true ∧ PySem.SeqAt.shaped (.tuple y) = true) ∧ K (.bool (PyData.eqv (.tuple x) (.tuple y))) L
theorem vF2 (v0 v1 : SV) (m lost : Int) (K : SV → List SO → Prop) : lcV ps (List.map oin) List.length (fun done a => a = done.map t0) (fL0 o1 o2 o3 o4 ps) (fun done b a => brn (decide (b = 5)) (addV (List.map oin) (fun done a => a = done.map t0) (fL0 o1 o2 o3 o4 ps) done b a .none) ((2 : Int) ≠ 0 ∧ addV (List.map oin) (fun done a => a = done.map t0) (fL0 o1 o2 o3 o4 ps) done b a (.int (b.fmod 2))))
    (fun zs => zs.length ≤ 1000 ∧ stepT (ps.map t0) zs (fT o1 o2 o3 o4 ps zs) (some 0) 1 ([.str "logical"], [.str "Mode"]) (.int 0) "FALSE" fun a1 => stepT (ps.map t0) zs (fT o1 o2 o3 o4 ps zs) (some 1) 2 a1 (.int 1) "TRUE" fun a2 => stepT (ps.map t0) zs (fT o1 o2 o3 o4 ps zs) none 3 a2 .none "NA's" fun a3 => True ∧
      stepB (ps.map t0) zs (fB o1 o2 o3 o4 ps zs a3) (some 0) 1 ([.str "logical"], [.str "Mode"]) (.int 0) "FALSE" fun b1 => stepB (ps.map t0) zs (fB o1 o2 o3 o4 ps zs a3) (some 1) 2 b1 (.int 1) "TRUE" fun b2 => stepB (ps.map t0) zs (fB o1 o2 o3 o4 ps zs a3) none 3 b2 .none "NA's" fun b3 =>
        smallL (.lit b3.1) ∧ smallL (.lit b3.2) ∧ cmpC "character" 16 19 10 11 (fB o1 o2 o3 o4 ps zs a3 b3 ++ resL 16 "character" b3.1 b3.2) K) →
  exsW (cF2 ps) (bun (cF2 ps) 30) lawSc (lawB.drop 5) ⟨lawLoc v0 v1 2 m lost, fL0 o1 o2 o3 o4 ps⟩ (kOf K) := Eq.mp (by kernel_rfl)
end
set_option maxRecDepth 100000
theorem smallL_lit {l : List SV} (h : l.length ≤ 1000) : smallL (.lit l) := by
  unfold smallL
  dsimp only
  rw [Nat.ble_eq_true_of_le h]; trivial
section
variable {o1 o2 o3 o4 : SO} {ps : List Int} {zs : List (Option Int)} {F : List SV × List SV → List SO} {c : Option Int} {k : Nat} {l : List SV × List SV} {v : SV} {nm : Str} {C : List SV × List SV → Prop} {K : SV → List SO → Prop}
theorem cnt_le (c : Option Int) (h : zs.length ≤ 7) : (-1000000 ≤ ((zs.count c : Nat) : Int) ∧ ((zs.count c : Nat) : Int) ≤ 1000000) := by
  have := List.count_le_length (a := c) (l := zs)
  omega
theorem stepT_of (h7 : zs.length ≤ 7) (h1 : l.1.length ≤ 5) (h2 : l.2.length ≤ 5) (e : tT zs k = tStep l (zs.count c) nm) (hC : C (tT zs k)) : stepT zs zs F c k l v nm C := by
  refine ⟨⟨by omega, brn_d (fun p => ⟨by omega, cnt_le c h7, smallL_lit (by omega), smallL_lit (by omega), _, rfl, ?_, rfl, rfl, rfl, rfl, rfl, trivial⟩) fun p => ⟨_, rfl, ?_, rfl, rfl, rfl, rfl, rfl, trivial⟩⟩, fun a ha => ha ▸ ⟨rfl, hC⟩⟩
  · rw [e, tStep, if_pos (Int.ofNat_lt.mp p)]
  · rw [e, tStep, if_neg fun q => p (Int.ofNat_lt.mpr q)]
theorem cnt_snoc (done : List (Option Int)) (x : Option Int) : (((done ++ [x]).count c : Nat) : Int) = ((done.count c : Nat) : Int) + if x = c then 1 else 0 := by
  rw [List.count_append, List.count_singleton]
  by_cases h : x = c <;> simp [h]
theorem turnT_of {L : List SO} : turnT zs L c v nm := fun done => by
  have key : ∀ x (z : Int), z = ((done.count c : Nat) : Int) + (if x = c then 1 else 0) → ctT L c v nm done x z := fun x z h => ⟨z, by rw [cnt_snoc, h], rfl, rfl, rfl, rfl, rfl, rfl, rfl, trivial⟩
  cases c with
  | none => exact ⟨fun rest z _ h => key _ _ (by rw [h]; rfl), fun b rest z _ h => key _ _ (by rw [h]; simp)⟩
  | some i =>
    refine ⟨fun rest z _ h => key _ _ (by rw [h]; simp), fun b rest z _ h => brn_d (fun e => key _ _ (by rw [h, e]; simp)) fun e => key _ _ (by rw [h]; simp [e])⟩
theorem stepB_of (h7 : zs.length ≤ 7) (h1 : l.1.length ≤ 5) (h2 : l.2.length ≤ 5) (e : tT zs k = tStep l (zs.count c) nm) (hC : C (tT zs k)) : stepB zs zs F c k l v nm C := by
  refine ⟨⟨0, rfl, rfl, rfl, rfl, rfl, rfl, rfl, rfl, trivial⟩, fun _ => rfl, turnT_of, fun z hz => ⟨brn_d (fun p => ⟨by rw [hz]; exact cnt_le c h7, smallL_lit (by omega), smallL_lit (by omega), _, rfl, ?_, rfl, rfl, rfl, rfl, rfl, rfl, trivial⟩) fun p => ⟨_, rfl, ?_, rfl, rfl, rfl, rfl, rfl, rfl, trivial⟩, fun a ha => ha ▸ ⟨trivial, hC⟩⟩⟩
  · rw [hz] at p ⊢
    rw [e, tStep, if_pos (Int.ofNat_lt.mp p)]
  · rw [hz] at p
    rw [e, tStep, if_neg fun q => p (Int.ofNat_lt.mpr q)]
theorem tStep_len {n m : Nat} (h1 : l.1.length ≤ m) (h2 : l.2.length ≤ m) (nm : Str) : (tStep l n nm).1.length ≤ m + 1 ∧ (tStep l n nm).2.length ≤ m + 1 := by
  unfold tStep
  split
  · simp only [List.length_append, List.length_singleton]; omega
  · omega
theorem tStep_flat {n : Nat} {nm : String} (h1 : ∀ v ∈ l.1, FlatV v) (h2 : ∀ v ∈ l.2, FlatV v) : (∀ v ∈ (tStep l n (Str.ofString nm)).1, FlatV v) ∧ ∀ v ∈ (tStep l n (Str.ofString nm)).2, FlatV v := by
  unfold tStep
  split
  · refine ⟨fun v hv => ?_, fun v hv => ?_⟩ <;> rcases List.mem_append.mp hv with hv | hv
    · exact h1 v hv
    · rw [List.mem_singleton.mp hv]; exact flat_str _
    · exact h2 v hv
    · rw [List.mem_singleton.mp hv]; exact flat_str _
  · exact ⟨h1, h2⟩
theorem tT_flat : (∀ v ∈ (tT zs 3).1, FlatV v) ∧ ∀ v ∈ (tT zs 3).2, FlatV v := by
  have h0 : (∀ v ∈ (tT zs 0).1, FlatV v) ∧ ∀ v ∈ (tT zs 0).2, FlatV v := ⟨fun v hv => by rw [List.mem_singleton.mp hv]; exact flat_str "logical", fun v hv => by rw [List.mem_singleton.mp hv]; exact flat_str "Mode"⟩
  have h1 := tStep_flat (n := zs.count (some 0)) (nm := "FALSE") h0.1 h0.2
  have h2 := tStep_flat (n := zs.count (some 1)) (nm := "TRUE") h1.1 h1.2
  exact tStep_flat (n := zs.count none) (nm := "NA's") h2.1 h2.2
theorem f2_ok {v0 v1 : SV} {m : Int} (h7 : ps.length ≤ 7) (hK : ∀ L, (∃ o, atN L 0 = some (SO.tab o)) → K (.bool true) L) : exsW (cF2 ps) (bun (cF2 ps) 30) lawSc (lawB.drop 5) ⟨lawLoc v0 v1 2 m (ps.count 5 : Nat), fL0 o1 o2 o3 o4 ps⟩ (kOf K) := by
  have hz : (ps.map t0).length ≤ 7 := by rw [List.length_map]; exact h7
  have l0 : ([SV.str "logical"] : List SV).length ≤ 1 ∧ ([SV.str "Mode"] : List SV).length ≤ 1 := by decide
  have l1 := tStep_len (l := ([SV.str "logical"], [SV.str "Mode"])) (n := (ps.map t0).count (some 0)) l0.1 l0.2 "FALSE"
  have l2 := tStep_len (n := (ps.map t0).count (some 1)) l1.1 l1.2 "TRUE"
  have l3 := tStep_len (n := (ps.map t0).count none) l2.1 l2.2 "NA's"
  have w1 : (tT (ps.map t0) 1).1.length ≤ 5 ∧ (tT (ps.map t0) 1).2.length ≤ 5 := ⟨Nat.le_trans l1.1 (by decide), Nat.le_trans l1.2 (by decide)⟩
  have w2 : (tT (ps.map t0) 2).1.length ≤ 5 ∧ (tT (ps.map t0) 2).2.length ≤ 5 := ⟨Nat.le_trans l2.1 (by decide), Nat.le_trans l2.2 (by decide)⟩
  have w3 : (tT (ps.map t0) 3).1.length ≤ 5 ∧ (tT (ps.map t0) 3).2.length ≤ 5 := ⟨Nat.le_trans l3.1 (by decide), Nat.le_trans l3.2 (by decide)⟩
  refine vF2 o1 o2 o3 o4 ps v0 v1 m _ K (lcMap_of oin h7 (fun _ => rfl) (fun _ => rfl) (fun b hb done a h => brn_d (fun e => ?_) fun e => ⟨by decide, ?_⟩) ⟨by omega, stepT_of hz (by decide) (by decide) rfl (stepT_of hz w1.1 w1.2 rfl (stepT_of hz w2.1 w2.2 rfl ⟨trivial, stepB_of hz (by decide) (by decide) rfl (stepB_of hz w1.1 w1.2 rfl (stepB_of hz w2.1 w2.2 rfl ⟨smallL_lit (Nat.le_trans w3.1 (by decide)), smallL_lit (Nat.le_trans w3.2 (by decide)), told_fin (k := "character") (K := fun c => K (.bool c) _) (strOk_of _) rfl rfl rfl rfl tT_flat.1 tT_flat.2 (hK _ ⟨_, rfl⟩)⟩))⟩))⟩)
  · subst e; exact h
  · unfold t0 at h; rw [if_neg e] at h; exact h
end
set_option maxRecDepth 100000
noncomputable def c0f (p : Int) : Option Int := if p = 5 then none else some (1 + p.fmod 3)
/-- how often the codes stand there -/
noncomputable def cnt3 (xs : List (Option Int)) : List Int := [((xs.count (some 1) : Nat) : Int), ((xs.count (some 2) : Nat) : Int), ((xs.count (some 3) : Nat) : Int)]
noncomputable def dueI (xs : List (Option Int)) (lost : Int) : List SV := (cnt3 xs).map .int ++ (if 0 < lost then [.int lost] else [])
noncomputable def dueN (lost : Int) : List SV := [.str "p", .str "q", .str "r"] ++ (if 0 < lost then [.str "NA's"] else [])
noncomputable def iTab : Inv := .ofrs (List Int) (fun s a => { s with led := setN s.led 29 (.list (.ints a)) }) fun _ done a => ∃ ds : List (Option Int), done = ds.map frI ∧ a = cnt3 ds
structure Due where
  g1 : SO
  g2 : SO
  g3 : SO
  l1 : List SV
  g4 : SO
  g5 : SO
  l2 : List SV
noncomputable def iDue (xs : List (Option Int)) (lost : Int) : Inv := .cut Due (fun s a => ⟨put s.loc (Str.ofString "due") (.tup [.str "integer", .own 19, .own 22]), s.led ++ [a.g1, a.g2, a.g3, .list (.lit a.l1), a.g4, a.g5, .list (.lit a.l2)]⟩) fun _ a => a.l1 = dueI xs lost ∧ a.l2 = dueN lost
noncomputable def iFac (xs : List (Option Int)) : Inv := .cut (List Int × List SV) (fun s a => { s with led := setN (setN s.led 29 (.list (.ints a.1))) 33 (.list (.lit a.2)) }) fun _ a => a.1.map .int = dueI xs ((xs.count none : Nat) : Int) ∧ a.2 = dueN ((xs.count none : Nat) : Int)
noncomputable def i43 : Spec := sInl (c0 [(264, i36), (132, sIsna), (220, sVec)] [(202, iTab)]) 43
noncomputable def i49 (xs : List (Option Int)) : Spec := sInl (c0 [(311, i43), (220, sVec), (318, i45)] [(242, iFac xs)]) 49
noncomputable def iB3 (xs : List (Option Int)) : Spec := sInl (c0 [(42, i4), (344, i49 xs)] []) 51
noncomputable def cF3 (ps : List Int) : Cfg := c0 [(220, sVec), (358, iB3 (ps.map c0f))] [(329, iO c0f), (331, iDue (ps.map c0f) ((ps.count 5 : Nat) : Int))]
section
variable (o1 o2 o3 o4 : SO) (ps : List Int) (zs : List (Option Int))
noncomputable def pqr : List SV := [.str "p", .str "q", .str "r"]
noncomputable def na1 : List SV := [.tup [.none, .own 8]]
noncomputable def f3A : List SO := fL0 o1 o2 o3 o4 ps ++ [.list (.oints zs), vecA (.str "integer") (.own 6) (.own 15), .inst 220 7, .list (.lit pqr), vecD (.str "character") (.own 9) .none, .inst 220 10, .list (.lit [.str "factor"]), vecD (.str "character") (.own 12) .none, .inst 220 13, .sdict [(Str.ofString "levels", .own 11), (Str.ofString "class", .own 14)]]
noncomputable def f3D (d : Due) : List SO := f3A o1 o2 o3 o4 ps zs ++ [d.g1, d.g2, d.g3, .list (.lit d.l1), d.g4, d.g5, .list (.lit d.l2)]
noncomputable def f3E (d : Due) (a : List Int) : List SO := f3D o1 o2 o3 o4 ps zs d ++ [.list (.lit na1), .list (.lit [.str "factor"]), .list (.oints zs), vecD (.str "integer") (.own 25) .none, .inst 220 26, .list (.lit [.int 0]), .list (.ints a)]
noncomputable def f3G (d : Due) (a : List Int) (a4 : List (Option Int)) : List SO := f3E o1 o2 o3 o4 ps zs d a ++ [.list (.ofrs (a4.map frI))]
noncomputable def f3H (d : Due) (a4 : List (Option Int)) (x : List Int × List SV) : List SO := f3G o1 o2 o3 o4 ps zs d x.1 a4 ++ [vecD (.str "integer") (.own 29) .none, .inst 220 31, .list (.lit x.2)]
noncomputable def f3L (d : Due) (a4 : List (Option Int)) (x : List Int × List SV) : List SO := f3G o1 o2 o3 o4 ps zs d x.1 a4 ++ [vecA (.str "integer") (.own 29) (.own 37), .inst 220 31, .list (.lit x.2), .list (.lit x.2), vecD (.str "character") (.own 34) .none, .inst 220 35, .sdict [(Str.ofString "names", .own 36)]]
noncomputable def dueP (m lost : Int) (v0 v1 : SV) (l1 l2 : List SV) : Prop := ∃ d : Due, (d.l1 = dueI (ps.map c0f) ((ps.count 5 : Nat) : Int) ∧ d.l2 = dueN ((ps.count 5 : Nat) : Int)) ∧
  f3A o1 o2 o3 o4 ps zs ++ [.list (.lit [.int 1, .int 2, .int 3]), .list (.lit ((cnt3 zs).map .int)), .list (.lit l1), .list (.lit ((cnt3 zs).map .int ++ l1)), .list (.lit pqr), .list (.lit l2), .list (.lit (pqr ++ l2))] = f3D o1 o2 o3 o4 ps zs d ∧
  some v0 = some v0 ∧ some v1 = some v1 ∧ some (SV.int 3) = some (.int 3) ∧ some (SV.int m) = some (.int m) ∧ some (SV.own 5) = some (.own 5) ∧ some (SV.int lost) = some (.int lost) ∧ some (SV.own 8) = some (.own 8) ∧ some (SV.tup [.str "integer", .own 19, .own 22]) = some (.tup [.str "integer", .own 19, .own 22]) ∧ True
noncomputable def tabP (d : Due) (a4 : List (Option Int)) (done : List (Option (Int × Int))) (l : List Int) : Prop := ∃ a', (∃ ds : List (Option Int), done = ds.map frI ∧ a' = cnt3 ds) ∧ f3G o1 o2 o3 o4 ps zs d l a4 = f3G o1 o2 o3 o4 ps zs d a' a4 ∧ some (SV.own 27) = some (.own 27) ∧ some (SV.int 3) = some (.int 3) ∧ some (SV.own 29) = some (.own 29) ∧ True
noncomputable def plc (b : Int × Int) : Int := (if b.1 < 0 then -b.1 else b.1).fdiv b.2
noncomputable def tabT (d : Due) (a4 : List (Option Int)) : Prop := ∀ done : List (Option (Int × Int)), (∀ rest a, a4.map frI = done ++ none :: rest → (∃ ds : List (Option Int), done = ds.map frI ∧ a = cnt3 ds) → tabP o1 o2 o3 o4 ps zs d a4 (done ++ [none]) a) ∧
  ∀ b rest a, a4.map frI = done ++ some b :: rest → (∃ ds : List (Option Int), done = ds.map frI ∧ a = cnt3 ds) → 0 < b.2 ∧ brn (decide (0 < b.2)) (b.2 ≠ 0 ∧ brn (decide (0 < b.1)) (brn (decide (1 ≤ plc b)) (brn (decide (plc b ≤ 3)) ((0 ≤ plc b - 1 ∧ plc b - 1 < (a.length : Int) ∧ plc b - 1 < 1000) ∧ (0 ≤ plc b - 1 ∧ plc b - 1 < (a.length : Int) ∧ plc b - 1 < 1000) ∧
      tabP o1 o2 o3 o4 ps zs d a4 (done ++ [some b]) (setN a (plc b - 1).toNat (a.getD (plc b - 1).toNat 0 + 1))) (tabP o1 o2 o3 o4 ps zs d a4 (done ++ [some b]) a)) (tabP o1 o2 o3 o4 ps zs d a4 (done ++ [some b]) a)) (tabP o1 o2 o3 o4 ps zs d a4 (done ++ [some b]) a)) (tabP o1 o2 o3 o4 ps zs d a4 (done ++ [some b]) a)
noncomputable def facP (xs : List (Option Int)) (x : List Int × List SV) : Prop := x.1.map SV.int = dueI xs ((xs.count none : Nat) : Int) ∧ x.2 = dueN ((xs.count none : Nat) : Int)
noncomputable def facC (xs : List (Option Int)) (d : Due) (a4 : List (Option Int)) (l : List Int × List SV) : Prop := ∃ x, facP xs x ∧ f3H o1 o2 o3 o4 ps zs d a4 l = f3H o1 o2 o3 o4 ps zs d a4 x ∧ some (SV.own 8) = some (.own 8) ∧ some (SV.own 9) = some (.own 9) ∧ some (SV.own 32) = some (.own 32) ∧ some (SV.own 33) = some (.own 33) ∧ some (SV.int ((zs.count none : Nat) : Int)) = some (.int ((zs.count none : Nat) : Int)) ∧ True
noncomputable def cntV (R : Prop) : Prop := zs.length ≤ 1000 ∧ (some (SV.own 8) = some (.own 8) ∧ True) ∧ some (SO.list (.lit [.int 1, .int 2, .int 3])) = some (SO.list (.lit [.int 1, .int 2, .int 3])) ∧ R
theorem vF3 (v0 v1 : SV) (m lost : Int) (K : SV → List SO → Prop) : lcV ps (List.map oin) List.length (fun done a => a = done.map c0f) (fL0 o1 o2 o3 o4 ps) (fun done b a => brn (decide (b = 5)) (addV (List.map oin) (fun done a => a = done.map c0f) (fL0 o1 o2 o3 o4 ps) done b a .none) ((3 : Int) ≠ 0 ∧ addV (List.map oin) (fun done a => a = done.map c0f) (fL0 o1 o2 o3 o4 ps) done b a (.int (1 + b.fmod 3))))
    (fun zs => cntV zs (cntV zs (cntV zs (brn (decide (0 < lost)) (brn (decide (0 < lost)) (dueP o1 o2 o3 o4 ps zs m lost v0 v1 [.int lost] [.str "NA's"]) (dueP o1 o2 o3 o4 ps zs m lost v0 v1 [.int lost] [])) (brn (decide (0 < lost)) (dueP o1 o2 o3 o4 ps zs m lost v0 v1 [] [.str "NA's"]) (dueP o1 o2 o3 o4 ps zs m lost v0 v1 [] []))))) ∧
      ∀ d : Due, d.l1 = dueI (ps.map c0f) ((ps.count 5 : Nat) : Int) ∧ d.l2 = dueN ((ps.count 5 : Nat) : Int) → True ∧ True ∧ zs.length ≤ 1000 ∧ True ∧ ((0 : Int) ≤ 3 ∧ (3 : Int) ≤ 100) ∧ zs.length ≤ 1000 ∧ numV zs (f3E o1 o2 o3 o4 ps zs d [0, 0, 0]) fun a4 =>
        (∃ a, (∃ ds : List (Option Int), ([] : List (Option (Int × Int))) = ds.map frI ∧ a = cnt3 ds) ∧ f3G o1 o2 o3 o4 ps zs d [0, 0, 0] a4 = f3G o1 o2 o3 o4 ps zs d a a4 ∧ some (SV.own 27) = some (.own 27) ∧ some (SV.int 3) = some (.int 3) ∧ some (SV.own 29) = some (.own 29) ∧ True) ∧ (∀ _ : List Int, some (SO.list (.ofrs (a4.map frI))) = some (SO.list (.ofrs (a4.map frI)))) ∧ tabT o1 o2 o3 o4 ps zs d a4 ∧
        ∀ a, (∃ ds : List (Option Int), a4.map frI = ds.map frI ∧ a = cnt3 ds) → True ∧ zs.length ≤ 1000 ∧ brn (decide (0 < ((zs.count none : Nat) : Int))) (a.length ≤ 1000 ∧ True ∧ facC o1 o2 o3 o4 ps zs (ps.map c0f) d a4 (a ++ [((zs.count none : Nat) : Int)], pqr ++ [.str "NA's"])) (facC o1 o2 o3 o4 ps zs (ps.map c0f) d a4 (a, pqr)) ∧
          ∀ x, facP (ps.map c0f) x → smallL (.lit x.2) ∧ cmpC "integer" 29 34 19 22 (f3L o1 o2 o3 o4 ps zs d a4 x) K) →
  exsW (cF3 ps) (bun (cF3 ps) 30) lawSc (lawB.drop 5) ⟨lawLoc v0 v1 3 m lost, fL0 o1 o2 o3 o4 ps⟩ (kOf K) := Eq.mp (by kernel_rfl)
end
set_option maxRecDepth 100000
theorem c0f_none (ps : List Int) : (ps.map c0f).count none = ps.count 5 := by
  induction ps with
  | nil => rfl
  | cons p r ih =>
    rw [List.map_cons, List.count_cons, List.count_cons, ih]
    by_cases h : p = 5
    · subst h; rfl
    · have : c0f p = some (1 + p.fmod 3) := by unfold c0f; rw [if_neg h]
      rw [this]; simp [h]
theorem c0f_mem {ps : List Int} {n : Int} (h : some n ∈ ps.map c0f) : n = 1 ∨ n = 2 ∨ n = 3 := by
  obtain ⟨p, _, e⟩ := List.mem_map.mp h
  unfold c0f at e
  split at e
  · cases e
  · cases e
    have h1 := Int.fmod_nonneg_of_pos p (b := 3) (by decide)
    have h2 := Int.fmod_lt_of_pos p (b := 3) (by decide)
    omega
theorem frI_inj : ∀ {a c : List (Option Int)}, a.map frI = c.map frI → a = c
  | [], [], _ => rfl
  | x :: a, y :: c, h => by
    rw [List.map_cons, List.map_cons, List.cons.injEq] at h
    rw [frI_inj h.2]
    cases x <;> cases y <;> first | rfl | (have := h.1; simp [frI] at this; try rw [this])
theorem cnt3_snoc (ds : List (Option Int)) : cnt3 (ds ++ [none]) = cnt3 ds ∧ cnt3 (ds ++ [some 1]) = setN (cnt3 ds) 0 ((cnt3 ds).getD 0 0 + 1) ∧ cnt3 (ds ++ [some 2]) = setN (cnt3 ds) 1 ((cnt3 ds).getD 1 0 + 1) ∧ cnt3 (ds ++ [some 3]) = setN (cnt3 ds) 2 ((cnt3 ds).getD 2 0 + 1) := by
  simp only [cnt3, cnt_snoc]
  exact ⟨by simp, by simp [setN], by simp [setN], by simp [setN]⟩
theorem dueI_flat (xs : List (Option Int)) (lost : Int) : ∀ v ∈ dueI xs lost, FlatV v := fun v hv => by
  rcases List.mem_append.mp hv with hv | hv
  · obtain ⟨x, _, rfl⟩ := List.mem_map.mp hv
    exact flat_int x
  · split at hv
    · rw [List.mem_singleton.mp hv]; exact flat_int _
    · cases hv
theorem dueN_flat (lost : Int) : (∀ v ∈ dueN lost, FlatV v) ∧ (dueN lost).length ≤ 4 := by
  refine ⟨fun v hv => ?_, ?_⟩
  · rcases List.mem_append.mp hv with hv | hv
    · exact flat_strs (l := ["p", "q", "r"]) v hv
    · split at hv
      · rw [List.mem_singleton.mp hv]; exact flat_str _
      · cases hv
  · unfold dueN; rw [List.length_append]; split <;> decide
section
variable {o1 o2 o3 o4 : SO} {ps : List Int} {zs : List (Option Int)} {K : SV → List SO → Prop}
theorem dueP_of {m lost : Int} {v0 v1 : SV} {l1 l2 : List SV} (e1 : (cnt3 (ps.map c0f)).map .int ++ l1 = dueI (ps.map c0f) ((ps.count 5 : Nat) : Int)) (e2 : pqr ++ l2 = dueN ((ps.count 5 : Nat) : Int)) : dueP o1 o2 o3 o4 ps (ps.map c0f) m lost v0 v1 l1 l2 := by
  refine ⟨⟨_, _, _, _, _, _, _⟩, ⟨e1, e2⟩, rfl, rfl, rfl, rfl, rfl, rfl, rfl, rfl, rfl, trivial⟩
theorem tabT_of {d : Due} : tabT o1 o2 o3 o4 ps zs d (ps.map c0f) := fun done => by
  have key : ∀ x (l : List Int), (∃ ds : List (Option Int), done ++ [x] = ds.map frI ∧ l = cnt3 ds) → tabP o1 o2 o3 o4 ps zs d (ps.map c0f) (done ++ [x]) l := fun x l h => ⟨l, h, rfl, rfl, rfl, rfl, trivial⟩
  refine ⟨fun rest a e ⟨ds, e1, e2⟩ => key _ _ ⟨ds ++ [none], by rw [e1]; simp [frI], by rw [e2, (cnt3_snoc ds).1]⟩, fun b rest a e ⟨ds, e1, e2⟩ => ?_⟩
  have hm : some b ∈ (ps.map c0f).map frI := by rw [e]; simp
  obtain ⟨x, hx, ex⟩ := List.mem_map.mp hm
  cases x with
  | none => cases ex
  | some n =>
    cases ex
    have hd : done ++ [some (n, (1 : Int))] = (ds ++ [some n]).map frI := by rw [e1]; simp [frI]
    obtain ⟨-, k1, k2, k3⟩ := cnt3_snoc ds
    have hlen : a.length = 3 := by rw [e2]; rfl
    subst e2
    rcases c0f_mem hx with rfl | rfl | rfl
    · exact ⟨by decide, brn_t (by decide) ⟨by decide, brn_t (by decide) (brn_t (by decide) (brn_t (by decide) ⟨by rw [hlen]; decide, by rw [hlen]; decide, key _ _ ⟨_, hd, k1.symm⟩⟩))⟩⟩
    · exact ⟨by decide, brn_t (by decide) ⟨by decide, brn_t (by decide) (brn_t (by decide) (brn_t (by decide) ⟨by rw [hlen]; decide, by rw [hlen]; decide, key _ _ ⟨_, hd, k2.symm⟩⟩))⟩⟩
    · exact ⟨by decide, brn_t (by decide) ⟨by decide, brn_t (by decide) (brn_t (by decide) (brn_t (by decide) ⟨by rw [hlen]; decide, by rw [hlen]; decide, key _ _ ⟨_, hd, k3.symm⟩⟩))⟩⟩
theorem f3_ok {v0 v1 : SV} {m : Int} (h7 : ps.length ≤ 7) (hK : ∀ L, (∃ o, atN L 0 = some (SO.tab o)) → K (.bool true) L) : exsW (cF3 ps) (bun (cF3 ps) 30) lawSc (lawB.drop 5) ⟨lawLoc v0 v1 3 m (ps.count 5 : Nat), fL0 o1 o2 o3 o4 ps⟩ (kOf K) := by
  have hz : (ps.map c0f).length ≤ 1000 := by rw [List.length_map]; omega
  have en : (((ps.map c0f).count none : Nat) : Int) = ((ps.count 5 : Nat) : Int) := congrArg Nat.cast (c0f_none ps)
  have cv : ∀ {R : Prop}, R → cntV (ps.map c0f) R := fun r => ⟨hz, ⟨rfl, trivial⟩, rfl, r⟩
  refine vF3 o1 o2 o3 o4 ps v0 v1 m _ K (lcMap_of oin h7 (fun _ => rfl) (fun _ => rfl) (fun b hb done a h => brn_d (fun e => ?_) fun e => ⟨by decide, ?_⟩)
    ⟨cv (cv (cv (brn_d (fun p => brn_t p (dueP_of ?_ ?_)) fun p => brn_f p (dueP_of ?_ ?_)))), fun d hd => ⟨trivial, trivial, hz, trivial, by decide, hz, numV_of hz ⟨⟨_, ⟨[], rfl, rfl⟩, rfl, rfl, rfl, rfl, trivial⟩, fun _ => rfl, tabT_of, fun a ⟨ds, e1, e2⟩ => ?_⟩⟩⟩)
  · subst e; exact h
  · unfold c0f at h; rw [if_neg e] at h; exact h
  · unfold dueI; rw [if_pos p]
  · unfold dueN; rw [if_pos p]; rfl
  · unfold dueI; rw [if_neg p]
  · unfold dueN; rw [if_neg p]; rfl
  · obtain rfl := frI_inj e1
    subst e2
    refine ⟨trivial, hz, ⟨brn_d (fun p => ⟨(show 3 ≤ 1000 by decide), trivial, _, ⟨?_, ?_⟩, rfl, rfl, rfl, rfl, rfl, rfl, trivial⟩) fun p => ⟨_, ⟨?_, ?_⟩, rfl, rfl, rfl, rfl, rfl, rfl, trivial⟩, fun x hx => ⟨smallL_lit (by rw [hx.2]; exact Nat.le_trans (dueN_flat _).2 (by decide)), told_fin (k := "integer") (l := .ints x.1) (n := .lit x.2) (l' := .lit d.l1) (n' := .lit d.l2) (K := fun c => K (.bool c) _) (strOk_of _) rfl rfl rfl rfl (by show ∀ v ∈ x.1.map SV.int, FlatV v; rw [hx.1]; exact dueI_flat _ _) (by show ∀ v ∈ x.2, FlatV v; rw [hx.2]; exact (dueN_flat _).1) (hK _ ⟨_, rfl⟩) ?_ ?_⟩⟩⟩
    · unfold dueI; rw [if_pos p]; simp
    · unfold dueN; rw [if_pos p]; rfl
    · unfold dueI; rw [if_neg p]; simp
    · unfold dueN; rw [if_neg p]; rfl
    · show d.l1 = x.1.map SV.int
      rw [hx.1, hd.1, en]
    · show d.l2 = x.2
      rw [hx.2, hd.2, en]
end
set_option maxRecDepth 100000
noncomputable def i3 : Spec := sInl (c0 [(28, i2)] []) 3
noncomputable def i6 : Spec := sInl (c0 [(35, i3)] []) 6
noncomputable def i7 : Spec := sInl (c0 [] []) 7
noncomputable def i8 : Spec := sInl (c0 [(42, i4), (56, i6), (63, i7)] []) 8
noncomputable def i32 : Spec := sInl (c0 [] []) 32
noncomputable def i33 : Spec := sInl (c0 [] []) 33
noncomputable def i50 : Spec := sInl (c0 [(252, i33)] []) 50
noncomputable def iB4 : Spec := sInl (c0 [(42, i4), (70, i8), (245, i32), (351, i50), (318, i45), (238, i31)] []) 51
noncomputable def cF4 : Cfg := c0 [(220, sVec), (365, sTake), (358, iB4)] []
section
variable (o1 o3 : SO) (ps : List Int) (m : Int)
noncomputable def lcm : List SV := [.str "Length", .str "Class", .str "Mode"]
noncomputable def itM (z : Int) (c : Str) (md : SV) : List SV := [.str (Str.ofString (toString z)), .str c, md]
noncomputable def lits (l : List SV) : SO := .list (.lit l)
noncomputable def resM (n : Nat) (items : List SV) : List SO := [lits items, lits items, vecA (.str "character") (.own n) (.own (n + 7)), .inst 220 (n + 1), lits lcm, lits lcm, vecD (.str "character") (.own (n + 4)) .none, .inst 220 (n + 5), .sdict [(Str.ofString "names", .own (n + 6))]]
noncomputable def dueM (i : Nat) (c : Str) (x : SV) : List SO := [lits [.str "character", .str "list"], lits (itM m c x), lits lcm, lits [.tup [.none, .own i]]]
noncomputable def cls2 (i : Nat) : List SO := [lits [.str "own", .str "more"], vecD (.str "character") (.own i) .none, .inst 220 (i + 1), .sdict [(Str.ofString "class", .own (i + 2))]]
noncomputable def own2 : List SO := [lits [.str "own", .str "more"], lits [.str "own", .str "more"]]
noncomputable def m4 (a : SV) : List SO := [lits [.str "t"], .list (.rep m.toNat (.str "t")), vecA (.str "character") (.own 7) a, .inst 220 8]
noncomputable def m5 (a : SV) : List SO := [lits [.int 1], vecD (.str "integer") (.own 6) .none, .inst 220 7, lits [.own 8], .list (.rep m.toNat (.own 8)), vecA (.str "list") (.own 10) a, .inst 220 11]
noncomputable def srcL (y : Int × Int × List Int) : List SO := fL0 o1 (.list (.ints y.2.2)) o3 (.list (.lit [.own 2, .int y.1, .int y.2.1])) ps
noncomputable def midM (R : Prop) : Prop := m.toNat ≤ 1000 ∧ (-1000000 ≤ ((m.toNat : Nat) : Int) ∧ ((m.toNat : Nat) : Int) ≤ 1000000) ∧ True ∧ True ∧ R
noncomputable def frM (i : Int) (md : SV) (R : SV → Prop) : Prop := (-1000000 ≤ m ∧ m ≤ 1000000) ∧ 0 ≤ i ∧ i < 1000 ∧ ∃ x, some md = some x ∧ R x
theorem vF4 (v0 : SV) (lost a t : Int) (xs : List Int) (K : SV → List SO → Prop) : ((0 ≤ m ∧ m ≤ 100) ∧ .own 4 = SV.own 4 ∧ (0 : Int) < 2 ∧ ∃ a1 t1, [SV.own 2, .int a, .int t] = [.own 2, .int a1, .int t1] ∧ takeP (a1, t1, xs) ∧ ∀ (f : Int) (y : Int × Int × List Int), 0 ≤ f → f < 2 → takeP y →
    brn (decide (f = 1)) (frM m 0 (.str "character") fun x => True ∧ True ∧ True ∧ True ∧ True ∧ midM m (cmpC "character" 21 25 15 16 (srcL o1 o3 ps y ++ m4 m (.own 13) ++ cls2 10 ++ dueM m 9 "own" x ++ own2 ++ resM 21 (itM (m.toNat : Nat) "own" (.str "character"))) K))
      (frM m 0 (.str "character") fun x => True ∧ True ∧ True ∧ True ∧ midM m (cmpC "character" 19 23 11 12 (srcL o1 o3 ps y ++ m4 m .none ++ dueM m 9 "character" x ++ [lits [], lits [], lits [], lits [.str "character"]] ++ resM 19 (itM (m.toNat : Nat) "character" (.str "character"))) K))) →
  exsW cF4 (bun cF4 30) lawSc (lawB.drop 5) ⟨lawLoc v0 (.own 4) 4 m lost, srcL o1 o3 ps (a, t, xs)⟩ (kOf K) := Eq.mp (by kernel_rfl)
theorem vF5 (v0 : SV) (lost a t : Int) (xs : List Int) (K : SV → List SO → Prop) : ((0 ≤ m ∧ m ≤ 100) ∧ .own 4 = SV.own 4 ∧ (0 : Int) < 2 ∧ ∃ a1 t1, [SV.own 2, .int a, .int t] = [.own 2, .int a1, .int t1] ∧ takeP (a1, t1, xs) ∧ ∀ (f : Int) (y : Int × Int × List Int), 0 ≤ f → f < 2 → takeP y →
    brn (decide (f = 1)) (frM m 1 (.str "list") fun x => True ∧ True ∧ True ∧ True ∧ True ∧ midM m (cmpC "character" 24 28 18 19 (srcL o1 o3 ps y ++ m5 m (.own 16) ++ cls2 13 ++ dueM m 12 "own" x ++ own2 ++ resM 24 (itM (m.toNat : Nat) "own" (.str "list"))) K))
      (frM m 1 (.str "list") fun x => True ∧ True ∧ midM m (cmpC "character" 19 23 14 15 (srcL o1 o3 ps y ++ m5 m .none ++ dueM m 12 "-none-" x ++ [lits []] ++ resM 19 (itM (m.toNat : Nat) "-none-" (.str "list"))) K))) →
  exsW cF4 (bun cF4 30) lawSc (lawB.drop 5) ⟨lawLoc v0 (.own 4) 5 m lost, srcL o1 o3 ps (a, t, xs)⟩ (kOf K) := Eq.mp (by kernel_rfl)
end
set_option maxRecDepth 100000
section
variable {o1 o3 : SO} {ps : List Int} {m : Int} {K : SV → List SO → Prop}
theorem itM_flat {z : Int} {c d : String} : ∀ v ∈ itM z (Str.ofString c) (.str (Str.ofString d)), FlatV v := fun v hv => by
  simp only [itM, List.mem_cons, List.not_mem_nil, or_false] at hv
  rcases hv with rfl | rfl | rfl <;> exact flat_str _
theorem lcm_flat : ∀ v ∈ lcm, FlatV v := fun v hv => flat_strs (l := ["Length", "Class", "Mode"]) v hv
theorem frM_of {i : Int} {md : SV} {R : SV → Prop} (hm : 0 ≤ m ∧ m < 8) (hi : 0 ≤ i ∧ i < 1000) (h : R md) : frM m i md R := ⟨by omega, hi.1, hi.2, md, rfl, h⟩
theorem midM_of {R : Prop} (hm : 0 ≤ m ∧ m < 8) (h : R) : midM m R := ⟨by omega, by omega, trivial, trivial, h⟩
theorem f4_ok {v0 : SV} {lost : Int} {x : Int × Int × List Int} (hm : 0 ≤ m ∧ m < 8) (hx : takeP x) (hK : ∀ L, (∃ o, atN L 0 = some (SO.tab o)) → K (.bool true) L) : exsW cF4 (bun cF4 30) lawSc (lawB.drop 5) ⟨lawLoc v0 (.own 4) 4 m lost, srcL o1 o3 ps x⟩ (kOf K) := by
  have em : ((m.toNat : Nat) : Int) = m := Int.toNat_of_nonneg hm.1
  refine vF4 o1 o3 ps m v0 lost x.1 x.2.1 x.2.2 K ⟨by omega, rfl, by decide, _, _, rfl, hx, fun f y _ _ _ => brn_d (fun _ => ?_) fun _ => ?_⟩ <;> rw [em]
  · exact frM_of hm (by decide) ⟨trivial, trivial, trivial, trivial, trivial, midM_of hm (told_fin (k := "character") (K := fun c => K (.bool c) _) (strOk_of _) rfl rfl rfl rfl itM_flat lcm_flat (hK _ ⟨_, rfl⟩))⟩
  · exact frM_of hm (by decide) ⟨trivial, trivial, trivial, trivial, midM_of hm (told_fin (k := "character") (K := fun c => K (.bool c) _) (strOk_of _) rfl rfl rfl rfl itM_flat lcm_flat (hK _ ⟨_, rfl⟩))⟩
theorem f5_ok {v0 : SV} {lost : Int} {x : Int × Int × List Int} (hm : 0 ≤ m ∧ m < 8) (hx : takeP x) (hK : ∀ L, (∃ o, atN L 0 = some (SO.tab o)) → K (.bool true) L) : exsW cF4 (bun cF4 30) lawSc (lawB.drop 5) ⟨lawLoc v0 (.own 4) 5 m lost, srcL o1 o3 ps x⟩ (kOf K) := by
  have em : ((m.toNat : Nat) : Int) = m := Int.toNat_of_nonneg hm.1
  refine vF5 o1 o3 ps m v0 lost x.1 x.2.1 x.2.2 K ⟨by omega, rfl, by decide, _, _, rfl, hx, fun f y _ _ _ => brn_d (fun _ => ?_) fun _ => ?_⟩ <;> rw [em]
  · exact frM_of hm (by decide) ⟨trivial, trivial, trivial, trivial, trivial, midM_of hm (told_fin (k := "character") (K := fun c => K (.bool c) _) (strOk_of _) rfl rfl rfl rfl itM_flat lcm_flat (hK _ ⟨_, rfl⟩))⟩
  · exact frM_of hm (by decide) ⟨trivial, trivial, midM_of hm (told_fin (k := "character") (K := fun c => K (.bool c) _) (strOk_of _) rfl rfl rfl rfl itM_flat lcm_flat (hK _ ⟨_, rfl⟩))⟩
end
set_option maxRecDepth 100000
section
variable {M : Model} {A : Around} {env : Env} {l2 : List Stmt}
theorem execs_appP {Γ : PySem.Ctx} {Q : Flow → Pos → Shared → Prop} {E : Value → Pos → Shared → Prop} : ∀ {l1 : List Stmt} {p : Pos} {s : Shared}, Sem.wp M Γ (execs l1 env) (fun f p s => match f with
    | .next => Sem.wp M Γ (execs l2 env) Q E p s
    | f => Q f p s) E p s → Sem.wp M Γ (execs (l1 ++ l2) env) Q E p s
  | [], _, _, h => h
  | e :: r, _, _, h => by
    rw [execs_cons, Sem.wp_bind'] at h
    rw [List.cons_append, execs_cons, Sem.wp_bind']
    refine Sem.wp_mono M Γ _ (fun f p' s' h' => ?_) (fun _ _ _ h' => h') _ _ h
    cases f with
    | next => exact execs_appP h'
    | brk => exact h'
    | cont => exact h'
    | ret v => exact h'
end
section
variable (V : Value) (XS : List Int)
noncomputable def preL (y : Int × Int × List Int) : List SO := [.tab true, .list (.ints (XS.take 40)), .list (.ints y.2.2), .list (.ints (XS.take 40)), .list (.lit [.own 2, .int y.1, .int y.2.1])]
noncomputable def drawV (n : Int) (y : Int × Int × List Int) (C : Int → Int × Int × List Int → Prop) : Prop := SV.own 4 = SV.own 4 ∧ 0 < n ∧ ∃ a t, [SV.own 2, .int y.1, .int y.2.1] = [.own 2, .int a, .int t] ∧ takeP (a, t, y.2.2) ∧ ∀ (f : Int) (z : Int × Int × List Int), 0 ≤ f → f < n → takeP z → C f z
noncomputable def pickP (done : List Int) (a : (Int × Int × List Int) × List Int) : Prop := takeP a.1 ∧ a.2.length = done.length ∧ ∀ p ∈ a.2, 0 ≤ p ∧ p < 6
theorem vPre (K : KF) : (((V = V ∧ XS = XS) ∧ XS.length ≤ 1000) ∧ (XS.take 40).length ≤ 1000 ∧ ((V = V ∧ XS = XS) ∧ XS.length ≤ 1000) ∧ (9973 : Int) ≠ 0 ∧ drawV 6 (0, 1 + (XS.take 40).sum.fmod 9973, XS.take 40) fun f y => drawV 8 y fun m y => (0 ≤ m ∧ m ≤ 1000) ∧
    (∃ a, pickP [] a ∧ preL XS y = preL XS a.1 ∧ a.2.map SV.int = []) ∧ (∀ _ : (Int × Int × List Int) × List Int, True) ∧ (∀ done b rest a, rangeL m = done ++ b :: rest → pickP done a → drawV 6 a.1 fun p z => (some (SV.own 4) = some (SV.own 4) ∧ True) ∧ ∃ a', pickP (done ++ [b]) a' ∧ preL XS z = preL XS a'.1 ∧ a'.2.map SV.int = a.2.map SV.int ++ [.int p]) ∧
    ∀ a, pickP (rangeL m) a → a.2.length ≤ 1000 ∧ a.2.length ≤ 1000 ∧ K .next ⟨lawLoc (.blist V XS) (.own 4) f m ((a.2.count 5 : Nat) : Int), preL XS a.1 ++ [.list (.ints a.2)]⟩) →
  exsW (cLaw V XS) (bun (cLaw V XS) 30) lawSc (lawB.take 5) ⟨[(Str.ofString "script", .blist V XS)], [.tab true]⟩ K := Eq.mp (by kernel_rfl)
variable {V XS}
theorem drawV_of {n : Int} {y : Int × Int × List Int} {C : Int → Int × Int × List Int → Prop} (hn : 0 < n) (hy : takeP y) (h : ∀ (f : Int) (z : Int × Int × List Int), 0 ≤ f → f < n → takeP z → C f z) : drawV n y C := ⟨rfl, hn, _, _, rfl, hy, h⟩
theorem pre_ok {K : KF} (hl : XS.length ≤ 63) (h : ∀ (f m : Int) (y : Int × Int × List Int) (ps : List Int), 0 ≤ f → f < 6 → 0 ≤ m → m < 8 → takeP y → ps.length ≤ 7 → (∀ p ∈ ps, 0 ≤ p ∧ p < 6) → K .next ⟨lawLoc (.blist V XS) (.own 4) f m ((ps.count 5 : Nat) : Int), preL XS y ++ [.list (.ints ps)]⟩) :
    exsW (cLaw V XS) (bun (cLaw V XS) 30) lawSc (lawB.take 5) ⟨[(Str.ofString "script", .blist V XS)], [.tab true]⟩ K := by
  have h40 : (XS.take 40).length ≤ 1000 := by rw [List.length_take]; omega
  refine vPre V XS K ⟨⟨⟨rfl, rfl⟩, by omega⟩, h40, ⟨⟨rfl, rfl⟩, by omega⟩, by decide, drawV_of (by decide) ⟨Int.le_refl 0, ?_, ?_, h40⟩ fun f y f0 f6 hy => drawV_of (by decide) hy fun m y m0 m8 hy => ⟨⟨m0, by omega⟩, ⟨(y, []), ⟨hy, rfl, fun _ h => nomatch h⟩, rfl, rfl⟩, fun _ => trivial, fun done b rest a _ ha => drawV_of (by decide) ha.1 fun p z p0 p6 hz => ⟨⟨rfl, trivial⟩, (z, a.2 ++ [p]), ⟨hz, by simp [ha.2.1], fun q hq => ?_⟩, rfl, by simp⟩, fun a ha => ?_⟩⟩
  · have := Int.fmod_nonneg_of_pos (XS.take 40).sum (b := 9973) (by decide)
    show 0 ≤ 1 + _
    omega
  · have := Int.fmod_lt_of_pos (XS.take 40).sum (b := 9973) (by decide)
    show 1 + _ < _
    omega
  · rcases List.mem_append.mp hq with hq | hq
    · exact ha.2.2 q hq
    · rw [List.mem_singleton.mp hq]; exact ⟨p0, p6⟩
  · have e : a.2.length = m.toNat := by rw [ha.2.1]; simp [rangeL]
    exact ⟨by omega, by omega, h f m a.1 a.2 f0 f6 m0 m8 ha.1 (by omega) ha.2.2⟩
end
set_option maxRecDepth 100000
section
variable {prog : Program} {w : World} {b : Heap} (S : Sta prog w b)
include S
theorem s56 {xs : List (Option Int)} : SpecOk prog w b 1 386 (i56 xs) := inl2 S hc0 (c := 385) (q := Str.ofString "_law_truths") (m := mLaw) (by kernel_rfl) (by kernel_rfl) (by kernel_rfl)
theorem s48 {xs : List (Option Int)} : SpecOk prog w b 5 337 (i48 xs) := inl2 S (hcu (s45 S) (hcu (s31 S) hc0)) (c := 336) (q := Str.ofString "summary_truths") (m := mDsp) (by kernel_rfl) (by kernel_rfl) (by kernel_rfl)
theorem sB2 {xs : List (Option Int)} : SpecOk prog w b 6 358 (iB2 xs) := inl2 S (hc1 (s48 S) hc0) (c := 357) (q := Str.ofString "b_summary") (m := mDsp) (by kernel_rfl) (by kernel_rfl) (by kernel_rfl)
theorem s43 : SpecOk prog w b 3 311 i43 := inl2 S (hcu (s36 S) (hcu (isna_sp S) (hc1 (vec_sp (lv := 0) S) hc0))) (c := 310) (q := Str.ofString "tabulate") (m := mSum) (by kernel_rfl) (by kernel_rfl) (by kernel_rfl)
theorem s49 {xs : List (Option Int)} : SpecOk prog w b 5 344 (i49 xs) := inl2 S (hcu (s43 S) (hcu (vec_sp (lv := 0) S) (hc1 (s45 S) hc0))) (c := 343) (q := Str.ofString "summary_factor") (m := mDsp) (by kernel_rfl) (by kernel_rfl) (by kernel_rfl)
theorem sB3 {xs : List (Option Int)} : SpecOk prog w b 6 358 (iB3 xs) := inl2 S (hcu (s4 S) (hc1 (s49 S) hc0)) (c := 357) (q := Str.ofString "b_summary") (m := mDsp) (by kernel_rfl) (by kernel_rfl) (by kernel_rfl)
theorem s3 : SpecOk prog w b 2 35 i3 := inl2 S (hc1 (s2 S) hc0) (c := 34) (q := Str.ofString "dim_of") (m := mAtt) (by kernel_rfl) (by kernel_rfl) (by kernel_rfl)
theorem s6 : SpecOk prog w b 3 56 i6 := inl2 S (hc1 (s3 S) hc0) (c := 55) (q := Str.ofString "shape_class") (m := mAtt) (by kernel_rfl) (by kernel_rfl) (by kernel_rfl)
theorem s7 : SpecOk prog w b 1 63 i7 := inl2 S hc0 (c := 62) (q := Str.ofString "plain_class") (m := mAtt) (by kernel_rfl) (by kernel_rfl) (by kernel_rfl)
theorem s8 : SpecOk prog w b 4 70 i8 := inl2 S (hcu (s4 S) (hcu (s6 S) (hcu (s7 S) hc0))) (c := 69) (q := Str.ofString "class_of") (m := mAtt) (by kernel_rfl) (by kernel_rfl) (by kernel_rfl)
theorem s32 : SpecOk prog w b 1 245 i32 := inl2 S hc0 (c := 244) (q := Str.ofString "length") (m := mVal) (by kernel_rfl) (by kernel_rfl) (by kernel_rfl)
theorem s33 : SpecOk prog w b 1 252 i33 := inl2 S hc0 (c := 251) (q := Str.ofString "is_function") (m := mVal) (by kernel_rfl) (by kernel_rfl) (by kernel_rfl)
theorem s50 : SpecOk prog w b 2 351 i50 := inl2 S (hc1 (s33 S) hc0) (c := 350) (q := Str.ofString "mode_of") (m := mDsp) (by kernel_rfl) (by kernel_rfl) (by kernel_rfl)
theorem sB4 : SpecOk prog w b 5 358 iB4 := inl2 S (hcu (s4 S) (hcu (s8 S) (hcu (s32 S) (hcu (s50 S) (hcu (s45 S) (hcu (s31 S) hc0)))))) (c := 357) (q := Str.ofString "b_summary") (m := mDsp) (by kernel_rfl) (by kernel_rfl) (by kernel_rfl)
variable {A : Around} {env : Env} {ρ : List Addr} {st : Shared} {V : Value} {XS : List Int}
noncomputable def kTrue (v : SV) (L : List SO) : Prop := v = .bool true ∧ ∃ o, atN L 0 = some (SO.tab o)
theorem law_exec (O : EnvOk env) (hA : AOk 8 A) (en : env.scope.names = lawSc) (hV : ∃ a vs, V = .ref a ∧ b.IsList a (List.toArray vs) ∧ IntsAre vs XS) (hl : XS.length ≤ 63) (R : Rel prog w b env ρ ⟨[(Str.ofString "script", .blist V XS)], [.tab true]⟩ st.heap) :
    wpAny (model prog w) A (execs lawB env) (PostF prog w b env ρ st (kOf kTrue)) F0 st := fun Γ p hΓ => by
  have hp := pre_ok (V := V) (XS := XS) (K := fun f s => f = .next ∧ ∃ (f m : Int) (y : Int × Int × List Int) (ps : List Int), (0 ≤ f ∧ f < 6 ∧ 0 ≤ m ∧ m < 8 ∧ takeP y ∧ ps.length ≤ 7 ∧ ∀ p ∈ ps, 0 ≤ p ∧ p < 6) ∧ s = ⟨lawLoc (.blist V XS) (.own 4) f m ((ps.count 5 : Nat) : Int), preL XS y ++ [.list (.ints ps)]⟩) hl
    fun f m y ps h1 h2 h3 h4 h5 h6 h7 => ⟨rfl, f, m, y, ps, ⟨h1, h2, h3, h4, h5, h6, h7⟩, rfl⟩
  rw [← en] at hp
  rw [← List.take_append_drop 5 lawB]
  refine execs_appP (Sem.wp_mono _ Γ _ (fun fl p' st₁ hf => ?_) (fun _ _ _ x => x) _ _ (exs_ok (bun_ok (lv := 8) (Cf := cLaw V XS) (fun v xs h => by obtain ⟨rfl, rfl⟩ := h; exact hV) S (glob_ok w) (hcu (take_sp S) hc0) 30) O hA R hp Γ p hΓ))
  obtain ⟨ρ₁, _, _, m₁, d, rfl, f, m, y, ps, ⟨f0, f6, m0, m8, hy, h7, hp⟩, rfl⟩ := hf
  cases d
  have go : ∀ {Cf : Cfg}, Cf.gl = glob → (∀ v xs, ¬ Cf.bl v xs) → (∀ p ∈ Cf.call, SpecOk prog w b 8 p.1 p.2) → exsW Cf (bun Cf 30) lawSc (lawB.drop 5) ⟨lawLoc (.blist V XS) (.own 4) f m ((ps.count 5 : Nat) : Int), preL XS y ++ [.list (.ints ps)]⟩ (kOf kTrue) →
      Sem.wp (model prog w) Γ (execs (lawB.drop 5) env) (fun f _ s => PostF prog w b env ρ st (kOf kTrue) f s) (fun e _ s => F0 e s) p' st₁ := fun {Cf} h1 h2 h3 h4 => by
    rw [← en] at h4
    exact wpAny_mono (exs_ok (bun_ok (fun v xs h => absurd h (h2 v xs)) S (h1 ▸ glob_ok w) h3 30) O hA m₁.rel h4) (fun _ _ x => x.trans m₁) (fun _ _ x => x) Γ p' hΓ
  have hK : ∀ L : List SO, (∃ o, atN L 0 = some (SO.tab o)) → kTrue (.bool true) L := fun _ h => ⟨rfl, h⟩
  have cs : f = 0 ∨ f = 1 ∨ f = 2 ∨ f = 3 ∨ f = 4 ∨ f = 5 := by omega
  rcases cs with rfl | rfl | rfl | rfl | rfl | rfl
  · exact go (Cf := cF0) rfl (fun _ _ h => h) (hcu (vec_sp (lv := 0) S) (hcu (nums_sp S) (hc1 (b0_sp S) hc0))) (f0_ok h7 hp hK)
  · exact go (Cf := cF1) rfl (fun _ _ h => h) (hcu (vec_sp (lv := 0) S) (hcu (nums_sp S) (hc1 (b1_sp S) hc0))) (f1_ok h7 hp hK)
  · exact go (Cf := cF2 ps) rfl (fun _ _ h => h) (hcu (vec_sp (lv := 0) S) (hcu (s56 S) (hcu (sB2 S) hc0))) (f2_ok h7 hK)
  · exact go (Cf := cF3 ps) rfl (fun _ _ h => h) (hcu (vec_sp (lv := 0) S) (hcu (sB3 S) hc0)) (f3_ok h7 hK)
  · exact go (Cf := cF4) rfl (fun _ _ h => h) (hcu (vec_sp (lv := 0) S) (hcu (take_sp S) (hcu (sB4 S) hc0))) (f4_ok ⟨m0, m8⟩ hy hK)
  · exact go (Cf := cF4) rfl (fun _ _ h => h) (hcu (vec_sp (lv := 0) S) (hcu (take_sp S) (hcu (sB4 S) hc0))) (f5_ok ⟨m0, m8⟩ hy hK)
end
set_option maxRecDepth 100000
theorem ghost_seer {tabs : List (Addr × Addr)} {h : Heap} (hT : TabsAt tabs h) (x : h.NoSeer) : (ghostOf h tabs).NoSeer where
  statics := let ⟨mc, a, b⟩ := x.statics; ⟨mc, ghost_ns hT a, b⟩
  mods := let ⟨mc, a, b⟩ := x.mods; ⟨mc, ghost_ns hT a, b⟩
  imp := let ⟨mc, a, b⟩ := x.imp; ⟨mc, ghost_ns hT a, b⟩
  main := let ⟨mg, bm, ob, a, b, c, d, e⟩ := x.main; ⟨mg, bm, ob, ghost_ns hT a, b, ghost_get hT c (fun q => by rw [q] at d; cases d), d, e⟩
noncomputable def kmH : Hook := kmHook heapK asK (fun _ => by kernel_rfl) [280]
theorem post_true (l : List Int) : PySem.Challenge.rw_pq1322_01.row.claim.post [ofPy (PyData.list (List.map PyData.int l))] (.bool true) [ofPy (PyData.list (List.map PyData.int l))] = true :=
  postW_of (by wrow_shape) (by wtm_val) (by w_fin)
theorem law_walk {d : DefRec} {kwd : List (Str × Expr)} (hd : d.name = Str.ofString "law") : WalkO lawQ [] (XL lawQ []) kmH.says PySem.Challenge.rw_pq1322_01.row.toRowW d kwd fun f vs => call f vs := by
  intro w s₀ s₁ mg mb G Y fa o pm cd doc dV kV ho hdd hcd hD hmg hg args vals as hpre hlay hrd hwl hlo
  have KX : (heapK w.params).In s₁.heap := Y.1
  have hT : TabsAt [(284, 280)] s₁.heap := fun q hq => by
    rw [List.mem_singleton.mp hq]
    exact ⟨code284 KX, Y.2 280 List.mem_cons_self⟩
  have T := G.T
  have T' := ghost_top hT T
  have S : Sta PySem.Challenge.rw_pq1322_01.row.toRowW.prog w (ghostOf s₁.heap [(284, 280)]) := ⟨ghost_K hT KX (by kernel_rfl), rfl, ⟨mg, T'.g⟩, ⟨mb, T'.b, T'.builtins⟩, T'.nolimit, ghost_seer hT (T.seer (by kernel_rfl)), ⟨mg, T'.g, T'.bmain⟩⟩
  have ea : mg (Str.ofString "law") = some (.ref 391) := mg_of KX T.g (by kernel_rfl)
  rw [hd, ea] at hmg
  cases hmg
  wrow_args hpre hlay hrd hwl hlo
  rename_i XS hs q1 q2 q3 q4 w4 w3 V vs w0 hL ra w1 r0 hI hr hc hc2
  have hl : XS.length ≤ 63 := by clear ho hdd hcd hD hg; omega
  clear ho hdd hcd hD hs q1 q2 q3 q4 ra w1 r0 hr hc hc2
  refine enter_call (kn_post hT (fun _ => raisesW_false allW_false_nil) ?_)
  obtain ⟨fd, ef, hfd, F⟩ := fn_open (st := fnAt 57) (q := Str.ofString "law") (dV := .none) (doc := .none) (pm := .str (Str.ofString "law_pq1322_01") 630) (cd := .ref 390) (ct := .none) (an := none) (by kernel_rfl)
  obtain ⟨as, kd, df, hp, hpar⟩ := F.par
  have D0 : Led PySem.Challenge.rw_pq1322_01.row.prog w (ghostOf s₁.heap [(284, 280)]) s₁.heap [280] [.tab true] := by
    refine ⟨rfl, fun i j a e e' => ?_, fun i a o e e' => ?_, fun a m => ?_⟩
    · cases i with
      | zero => cases j with
        | zero => rfl
        | succ j => cases e'
      | succ i => cases e
    · cases i with
      | zero => cases e; cases e'; exact .tab0 (Y.2 280 List.mem_cons_self)
      | succ i => cases e
    · rw [List.mem_singleton.mp m]
      exact hideAll_none _ List.mem_cons_self
  refine run_core (lv := 8) (vs := [.blist (.ref V) XS]) (us := [.ref V]) (K := kTrue) S (ef ▸ (by kernel_rfl : (heapK w.params).lookup 391 = some (fnOb (fnAt 57) (Str.ofString "law") .none .none .none (.str (Str.ofString "law_pq1322_01") 630) none (.ref 390) .none 0))) F (by kernel_rfl) ⟨rfl, by decide +kernel, by decide +kernel, [], rfl⟩ D0 (fun a o e => ?_) (.cons (.blist _ _) .nil) (.of_eq ?_) (fun env A st₁ O en _ hA R => ?_) fun v st' ρ' sv led' h1 h2 h3 h4 h5 h6 => ?_
  · exact of_hideAll _ e
  · rw [← hpar]
    exact bind_plain hp hfd (hpar ▸ F.parA) (by rw [hpar]; kernel_rfl)
  · exact law_exec S O hA (en.trans (by kernel_rfl)) ⟨V, vs, rfl, ghost_list hT hL, hI⟩ hl R
  · obtain ⟨rfl, o, e0⟩ := h6
    cases h5
    have e1 : atN ρ' 0 = some 280 := h3.pre 0 280 rfl
    refine ⟨⟨.inl ⟨_, _, _, rfl, raisesW_false allW_false_nil, .bool true, post_true XS, unshared_nil⟩, fun c q e => h3.keep c q (of_hideAll _ e) (by simp) fun m => ?_, h1, h2.trans hg⟩, ?_, trivial⟩
    · cases (hideAll_none _ m).symm.trans e
    · cases h4.lay 0 280 _ e1 e0 with
      | tab0 g => exact ⟨_, g⟩
      | tab1 g => exact ⟨_, g⟩
theorem both {α β γ : Type} {o : Option α} {f : α → β} {g : α → γ} {b : β} {c : γ} (h1 : o.map f = some b) (h2 : o.map g = some c) : o.map (fun s => (f s, g s)) = some (b, c) := by
  cases o with
  | none => cases h1
  | some a => simp only [Option.map_some, Option.some.injEq] at h1 h2; simp only [Option.map_some, h1, h2]
set_option maxHeartbeats 40000000 in
theorem law_all : PySem.Challenge.rw_pq1322_01.Holds := by
  refine holds_law said fun _ => ?_
  refine holds_open (q := lawQ) (loose := []) (Xt := (fun s => xlAt lawQ [] s && recOk (RowW.records (OpenRow.toRowW (OpenLaw.row PySem.Challenge.rw_pq1322_01))) s)) (XP := XL lawQ []) (Yf := Hook.obs (kmHook heapK asK (fun _ => by kernel_rfl) [280])) (Ya := Hook.val (kmHook heapK asK (fun _ => by kernel_rfl) [280])) (YP := Hook.says (kmHook heapK asK (fun _ => by kernel_rfl) [280])) (N := 4494) (fun w => both (left_seen w) (left_heap w)) (Hook.of (kmHook heapK asK (fun _ => by kernel_rfl) [280])) (Hook.keeps (kmHook heapK asK (fun _ => by kernel_rfl) [280])) (fun s e => xl_of s (Bool.and_eq_true_iff.mp e).1) XL.keeps (by rfl) (by rfl) (by rfl) (fun s e => recFacts_of (Bool.and_eq_true_iff.mp e).2) (by rfl) ?h4 ?h5 ?h6 ?hw ?hc
  case hw => w_witness2
  case h4 => first | assumption | decide +kernel
  case h5 => decide +kernel
  case h6 => exact ⟨rfl, rfl, rfl, rfl, rfl, by decide +kernel⟩
  case hc => exact law_walk rfl
end
end Mine
theorem PySem.Challenge.cw_pq1322_01_holds : PySem.Challenge.rw_pq1322_01.Holds :=
  Mine.law_all
