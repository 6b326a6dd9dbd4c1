import PyProof.Rows.All
import Wide.All
import OpenK.KWalk
import OpenK.KCall
import Wide.FinOn
import PySem.Challenge.RW_xm0442_01
set_option Elab.async false
set_option maxHeartbeats 2000000
local macro_rules | `(tactic| omega) => `(tactic| first | lia | omega (config := {}))

noncomputable section
namespace Mine
open PySem

inductive V where
  | none
  | bool (b : Bool)
  | int (i : Int)
  | ref (i : Nat)
  | fn (a : Nat)

inductive Ob where
  | L (xs : List V)
  | T (xs : List V)

abbrev Hp := List Ob
abbrev Lo := Nat → Option V
noncomputable def upd (lo : Lo) (x : Nat) (v : V) : Lo := fun y => bif y == x then some v else lo y

inductive Bop where | add | sub | mul | fdiv | mod | shl | shr | band | bor | pow
inductive Cop where | eq | ne | lt | le | gt | ge

inductive E where
  | i (n : Int)
  | b (v : Bool)
  | x (s : Nat)
  | g (v : V)
  | bin (op : Bop) (l r : E)
  | not (e : E)
  | neg (e : E)
  | cmp (op : Cop) (l r : E)
  | and (l r : E)
  | ite (c t e : E)
  | ix (e k : E)
  | slL (e hi : E)
  | slM (e lo hi : E)
  | slA (e : E)
  | rev (e : E)
  | lst (es : List E)
  | tup (es : List E)
  | call (f : E) (as : List E)
  | len (e : E)
  | abs (e : E)
  | toI (e : E)
  | sum (e : E)
  | bits (e : E)
  | min (l r : E)
  | cmpL (e : E) (s : Nat) (elt : E)
  | cmpR (lo hi : E) (s : Nat) (elt : E)
  | cmpF (lo hi : E) (s : Nat) (c elt : E)

inductive T where
  | nm (s : Nat)
  | sub (o k : E)

inductive S where
  | asg (t : T) (e : E)
  | asgT (ts : List T) (es : List E)
  | unp (ss : List Nat) (e : E)
  | aug (s : Nat) (op : Bop) (e : E)
  | app (o v : E)
  | ex (e : E)
  | ife (c : E) (t e : List S)
  | whl (c : E) (b : List S)
  | forR (s : Nat) (lo hi st : E) (b : List S)
  | forL (s : Nat) (e : E) (b : List S)
  | forE (s1 s2 : Nat) (e : E) (b : List S)
  | ret (e : E)
  | bad

/-! ## compile -/
structure Cx where
  names : List (Str × NameKind)
  vars : List (Str × Nat)
  lvl : Nat
  gl : List (Str × V)

noncomputable def slotsOf (base : Nat) : Nat → List (Str × NameKind) → List (Str × Nat)
  | _, [] => []
  | k, (n, .local) :: r => (n, base + k) :: slotsOf base (k + 1) r
  | k, (n, .cell) :: r => (n, base + k) :: slotsOf base (k + 1) r
  | k, _ :: r => slotsOf base (k + 1) r

noncomputable def fresOf (outer : List (Str × Nat)) : List (Str × NameKind) → List (Str × Nat)
  | [] => []
  | (n, .free) :: r => match outer.lookup n with
    | some s => (n, s) :: fresOf outer r
    | none => fresOf outer r
  | _ :: r => fresOf outer r

noncomputable def cxOf (gl : List (Str × V)) (sc : Scope) : Cx := { names := sc.names, vars := slotsOf 0 0 sc.names, lvl := 0, gl }
noncomputable def Cx.inner (cx : Cx) (sc : Scope) : Cx :=
  { names := sc.names, vars := slotsOf (100 * (cx.lvl + 1)) 0 sc.names ++ fresOf cx.vars sc.names, lvl := cx.lvl + 1, gl := cx.gl }

noncomputable def bopOf (o : Operator) : Option Bop := match o with
  | .Add => some .add | .Sub => some .sub | .Mult => some .mul | .FloorDiv => some .fdiv | .Mod => some .mod
  | .LShift => some .shl | .RShift => some .shr | .BitAnd => some .band | .BitOr => some .bor | .Pow => some .pow
  | .Div => none | .MatMult => none | .BitXor => none
noncomputable def copOf (o : CmpOp) : Option Cop := match o with
  | .Eq => some .eq | .NotEq => some .ne | .Lt => some .lt | .LtE => some .le | .Gt => some .gt | .GtE => some .ge
  | .Is => none | .IsNot => none | .In => none | .NotIn => none

noncomputable def nLen : Str := "len"
noncomputable def nRange : Str := "range"
noncomputable def nMin : Str := "min"
noncomputable def nAbs : Str := "abs"
noncomputable def nInt : Str := "int"
noncomputable def nSum : Str := "sum"
noncomputable def nEnum : Str := "enumerate"
noncomputable def nAppend : Str := "append"
noncomputable def nBitLen : Str := "bit_length"

noncomputable def isBuiltin (cx : Cx) (n m : Str) : Bool := n == m && cx.names.lookup n == some .globalImplicit && (cx.gl.lookup n).isNone

noncomputable def mapO {α β} (f : α → Option β) : List α → Option (List β)
  | [] => some []
  | a :: r => do let b ← f a; let bs ← mapO f r; pure (b :: bs)

noncomputable def isVar (k : NameKind) : Bool := k == .local || k == .cell || k == .free
noncomputable def cName (cx : Cx) (n : Str) : Option E := do
  let k ← cx.names.lookup n
  if isVar k then (cx.vars.lookup n).map .x
  else if k == .globalImplicit then (cx.gl.lookup n).map .g else none

noncomputable def namesOk (names : List (Str × NameKind)) : Bool :=
  decide ((names.map (·.1)).Nodup) && names.all fun p => !(p.1 == ("__debug__" : Str)) && !(p.1 == ("__classdict__" : Str))
noncomputable def varsOk (cx : Cx) : Bool := decide ((cx.vars.map (·.2)).Nodup) && cx.vars.all fun p => decide (p.2 < 100 * (cx.lvl + 1))
/-- a comprehension's own block -/
noncomputable def scopeOk (cx : Cx) (sc : Scope) : Bool :=
  sc.kind == .function && namesOk sc.names && varsOk (cx.inner sc) && sc.names.all (fun p => (p.2 != .local && p.2 != .cell) || (match (cx.inner sc).vars.lookup p.1 with | some s => decide (100 * (cx.lvl + 1) ≤ s) | none => false)) &&
    sc.names.all fun p => p.2 != .free || ((cx.names.lookup p.1 == some .cell || cx.names.lookup p.1 == some .free) && (cx.vars.lookup p.1).isSome && (cx.inner sc).vars.lookup p.1 == cx.vars.lookup p.1)

/-! views -/
noncomputable def one {α : Type} : List α → Option α
  | [a] => some a
  | _ => none
noncomputable def two {α : Type} : List α → Option (α × α)
  | [a, b] => some (a, b)
  | _ => none
noncomputable def asName : PySem.Expr → Option Str
  | .Name n _ => some n
  | _ => none
noncomputable def asAttr : PySem.Expr → Option (PySem.Expr × Str × Pos)
  | .Attribute o n p => some (o, n, p)
  | _ => none
noncomputable def asCall : PySem.Expr → Option (PySem.Expr × List PySem.Expr × Pos)
  | .Call f as ks p => if ks.isEmpty then some (f, as, p) else none
  | _ => none
noncomputable def asTuple : PySem.Expr → Option (List PySem.Expr)
  | .Tuple es _ _ => some es
  | _ => none
noncomputable def asSlice : PySem.Expr → Option (Option PySem.Expr × Option PySem.Expr × Option PySem.Expr)
  | .Slice a b c _ => some (a, b, c)
  | _ => none
noncomputable def asNeg : PySem.Expr → Option PySem.Expr
  | .UnaryOp op e _ => if op == .USub then some e else none
  | _ => none
noncomputable def asInt : PySem.Expr → Option Int
  | .Constant (.int i) _ _ => some i
  | _ => none
noncomputable def isM1 (e : PySem.Expr) : Bool := ((asNeg e).bind asInt) == some 1
noncomputable def asRange (cx : Cx) (e : PySem.Expr) : Option (List PySem.Expr) := do
  let c ← asCall e
  let n ← asName c.1
  if isBuiltin cx n nRange then some c.2.1 else none
noncomputable def asEnum (cx : Cx) (e : PySem.Expr) : Option PySem.Expr := do
  let c ← asCall e
  let n ← asName c.1
  if isBuiltin cx n nEnum then one c.2.1 else none

/-! expressions -/
noncomputable def cConst : Const → Option E
  | .int i => some (.i i)
  | .bool b => some (.b b)
  | _ => none
noncomputable def cUn (op : UnaryOp) (e : E) : Option E := match op with
  | .Not => some (.not e)
  | .USub => some (.neg e)
  | .Invert => none
  | .UAdd => none
noncomputable def cSl (f : PySem.Expr → Option E) (o : PySem.Expr) : Option PySem.Expr × Option PySem.Expr × Option PySem.Expr → Option E
  | (none, none, none) => do let o ← f o; pure (.slA o)
  | (none, some hi, none) => do let o ← f o; let hi ← f hi; pure (.slL o hi)
  | (some lo, some hi, none) => do let o ← f o; let lo ← f lo; let hi ← f hi; pure (.slM o lo hi)
  | (none, none, some st) => if isM1 st then do let o ← f o; pure (.rev o) else none
  | _ => none
noncomputable def cSub (f : PySem.Expr → Option E) (o i : PySem.Expr) : Option E := match asSlice i with
  | some sl => cSl f o sl
  | none => do let o ← f o; let i ← f i; pure (.ix o i)
noncomputable def cB1 (cx : Cx) (n : Str) (a : E) : Option E :=
  if isBuiltin cx n nLen then some (.len a)
  else if isBuiltin cx n nAbs then some (.abs a)
  else if isBuiltin cx n nInt then some (.toI a)
  else if isBuiltin cx n nSum then some (.sum a)
  else do let f ← cName cx n; pure (.call f [a])
noncomputable def cB (cx : Cx) (n : Str) : List E → Option E
  | [] => none
  | [a] => cB1 cx n a
  | [a, b] => if isBuiltin cx n nMin then some (.min a b) else do let f ← cName cx n; pure (.call f [a, b])
  | a :: as => do let f ← cName cx n; pure (.call f (a :: as))
noncomputable def cCall (cx : Cx) (f : PySem.Expr → Option E) (fn : PySem.Expr) (as : List PySem.Expr) (p : Pos) : Option E :=
  match asAttr fn with
  | some (o, n, ap) => if as.isEmpty && n == nBitLen && ap.endLine == p.line then do let o ← f o; pure (.bits o) else none
  | none => do let n ← asName fn; let es ← mapO f as; cB cx n es
noncomputable def cRg (f f' : PySem.Expr → Option E) (s : Nat) (elt : PySem.Expr) (as ifs : List PySem.Expr) : Option E :=
  match one ifs with
  | none => if ifs.isEmpty then do let hi ← one as; let hi ← f hi; let elt ← f' elt; pure (.cmpR (.i 0) hi s elt) else none
  | some c => do let q ← two as; let lo ← f q.1; let hi ← f q.2; let c ← f' c; let elt ← f' elt; pure (.cmpF lo hi s c elt)
noncomputable def cGen (cx : Cx) (f f' : PySem.Expr → Option E) (s : Nat) (elt it : PySem.Expr) (ifs : List PySem.Expr) : Option E :=
  match asRange cx it with
  | some as => cRg f f' s elt as ifs
  | none => if ifs.isEmpty then do let it ← f it; let elt ← f' elt; pure (.cmpL it s elt) else none
noncomputable def cComp (cx : Cx) (f f' : PySem.Expr → Option E) (sc : Scope) (elt : PySem.Expr) (g : Comprehension) : Option E := do
  let x ← asName g.target
  let kd ← (cx.inner sc).names.lookup x
  let s ← (cx.inner sc).vars.lookup x
  if (kd == .local || kd == .cell) && scopeOk cx sc && g.is_async == 0 then cGen cx f f' s elt g.iter g.ifs else none

noncomputable def cE1 (F : Cx → PySem.Expr → Option E) (cx : Cx) (e : PySem.Expr) : Option E := match e with
  | .Constant c _ _ => cConst c
  | .Name n _ => cName cx n
  | .BinOp l op r _ => do let l ← F cx l; let op ← bopOf op; let r ← F cx r; pure (.bin op l r)
  | .UnaryOp op e _ => do let e ← F cx e; cUn op e
  | .BoolOp op es _ => if op == .And then do let q ← two es; let l ← F cx q.1; let r ← F cx q.2; pure (.and l r) else none
  | .IfExp c t e _ => do let c ← F cx c; let t ← F cx t; let e ← F cx e; pure (.ite c t e)
  | .Compare l ops rs _ => do let op ← one ops; let r ← one rs; let l ← F cx l; let op ← copOf op; let r ← F cx r; pure (.cmp op l r)
  | .List es _ => if es.length ≤ 100 then do let es ← mapO (F cx) es; pure (.lst es) else none
  | .Tuple es _ _ => if es.length ≤ 100 then do let es ← mapO (F cx) es; pure (.tup es) else none
  | .Subscript o i _ => cSub (F cx) o i
  | .Call fn as ks p => if ks.isEmpty then cCall cx (F cx) fn as p else none
  | .ListComp elt gs sc _ => do let g ← one gs; cComp cx (F cx) (F (cx.inner sc)) sc elt g
  | _ => none
noncomputable def cE : Nat → Cx → PySem.Expr → Option E
  | 0 => fun _ _ => none
  | k + 1 => cE1 (cE k)

noncomputable def cSlot (cx : Cx) (n : Str) : Option Nat := do
  let k ← cx.names.lookup n
  if k == .local || k == .cell then cx.vars.lookup n else none

noncomputable def cT (k : Nat) (cx : Cx) (e : PySem.Expr) : Option T := match e with
  | .Name n _ => (cSlot cx n).map .nm
  | .Subscript o i _ => if (asSlice i).isNone then do let o ← cE k cx o; let i ← cE k cx i; pure (.sub o i) else none
  | _ => none

noncomputable def cNm (cx : Cx) (e : PySem.Expr) : Option Nat := do
  let n ← asName e
  cSlot cx n

noncomputable def notComp : PySem.Expr → Bool
  | .ListComp .. => false
  | .SetComp .. => false
  | .DictComp .. => false
  | _ => true

noncomputable def cAsg (k : Nat) (cx : Cx) (t e : PySem.Expr) : Option S := match asTuple t with
  | some ts => (match asTuple e with
    | some es => if ts.length == es.length && es.length ≤ 100 && !(es.all (constantsAlone 8)) then do let ts ← mapO (cT k cx) ts; let es ← mapO (cE k cx) es; pure (.asgT ts es) else none
    | none => if notComp e then do let ss ← mapO (cNm cx) ts; let e ← cE k cx e; pure (.unp ss e) else none)
  | none => if notComp e then do let t ← cT k cx t; let e ← cE k cx e; pure (.asg t e) else none
noncomputable def cExS (k : Nat) (cx : Cx) (fn : PySem.Expr) (as : List PySem.Expr) (p : Pos) (e : PySem.Expr) : Option S := match asAttr fn with
  | some (o, n, ap) => do
    let v ← one as
    if n == nAppend && ap.endLine == p.line then do let o ← cE k cx o; let v ← cE k cx v; pure (.app o v) else none
  | none => do let _ ← asName fn; let e ← cE k cx e; pure (.ex e)
noncomputable def cForR (s : Nat) (b : List S) : List E → Option S
  | [hi] => some (.forR s (.i 0) hi (.i 1) b)
  | [lo, hi] => some (.forR s lo hi (.i 1) b)
  | [lo, hi, st] => some (.forR s lo hi st b)
  | _ => none
noncomputable def cFor (k : Nat) (cx : Cx) (t it : PySem.Expr) (b : List S) : Option S := match asRange cx it with
  | some as => do let x ← asName t; let s ← cSlot cx x; let es ← mapO (cE k cx) as; cForR s b es
  | none => (match asEnum cx it with
    | some a => do let ts ← asTuple t; let q ← two ts; let x ← asName q.1; let y ← asName q.2; let s1 ← cSlot cx x; let s2 ← cSlot cx y; let e ← cE k cx a; pure (.forE s1 s2 e b)
    | none => do let x ← asName t; let s ← cSlot cx x; let e ← cE k cx it; pure (.forL s e b))

noncomputable def cS1 (k : Nat) (F : Cx → PySem.Stmt → Option S) (cx : Cx) (st : PySem.Stmt) : Option S := match st with
  | .Assign ts e _ => do let t ← one ts; cAsg k cx t e
  | .AugAssign t op e _ => do let n ← asName t; let s ← cSlot cx n; let op ← bopOf op; let e ← cE k cx e; pure (.aug s op e)
  | .Expr e _ => do let c ← asCall e; cExS k cx c.1 c.2.1 c.2.2 e
  | .If c t e _ => do let c ← cE k cx c; let t ← mapO (F cx) t; let e ← mapO (F cx) e; pure (.ife c t e)
  | .While c b oe _ => if oe.isEmpty then do let c ← cE k cx c; let b ← mapO (F cx) b; pure (.whl c b) else none
  | .For t it b oe _ => if oe.isEmpty then do let b ← mapO (F cx) b; cFor k cx t it b else none
  | .Return e _ => do let e ← e; let e ← cE k cx e; pure (.ret e)
  | .Raise .. => some .bad
  | _ => none
noncomputable def cS : Nat → Cx → PySem.Stmt → Option S
  | 0 => fun _ _ => none
  | k + 1 => cS1 k (cS k)

/-! ## the program's functions -/
noncomputable def stmtsOf : List Stmt → List (Str × List Stmt × Scope × List Arg)
  | [] => []
  | .FunctionDef n a b _ _ _ sc _ _ _ :: r => (n, b, sc, a.args) :: stmtsOf r
  | _ :: r => stmtsOf r

noncomputable def addrs : List (String × Nat) := [("gcd_plain", 21), ("normal", 65), ("compare", 72), ("add", 79), ("sub", 86), ("divrem_limb", 93),
  ("shift_left", 100), ("shift_right", 107), ("bits", 114), ("signed", 121), ("s_neg", 128), ("s_sign", 135), ("s_add", 142), ("s_sub", 149),
  ("s_mul", 156), ("tdiv", 163), ("m_turned", 172), ("exact", 179), ("pivot_row", 186), ("cleared", 193), ("steps_down", 198),
  ("det_bareiss", 205), ("mul_school", 212), ("divrem_small", 219), ("guessed_limb", 226), ("take_away", 233), ("put_back", 240),
  ("divide_rows", 247), ("divrem_school", 254), ("_law_next", 261), ("_law_limbs", 268), ("_law_signed", 275), ("_law_plain", 282), ("law", 287)]
noncomputable def gls : List (Str × V) := [((.ofString "NOUGHT"), .ref 2), ((.ofString "UNIT"), .ref 4)] ++ addrs.map fun (n, a) => (Str.ofString n, V.fn a)
noncomputable def cFn (p : List Stmt × Scope) : Option (List S) := mapO (cS 40 (cxOf gls p.2)) p.1

/-! ## weakest preconditions -/
abbrev KV := V → Hp → Prop
inductive R where
  | next
  | ret (v : V)
abbrev KR := R → Lo → Hp → Prop
abbrev Orc := Nat → List V → Hp → KV → Prop

noncomputable def big : Nat := 2 ^ 24
/-- the first objects stand fast -/
noncomputable def ro : Nat := 5

noncomputable def getP {α : Type} (o : Option α) (K : α → Prop) : Prop := match o with
  | some v => K v
  | none => False
theorem getP_some {α : Type} {v : α} {K : α → Prop} : getP (some v) K = K v := rfl
noncomputable def getL (o : Option Ob) (K : List V → Prop) : Prop := match o with
  | some (.L xs) => K xs
  | _ => False
theorem getL_L {xs : List V} {K : List V → Prop} : getL (some (.L xs)) K = K xs := rfl
noncomputable def getT (o : Option Ob) (K : List V → Prop) : Prop := match o with
  | some (.T xs) => K xs
  | _ => False
theorem getT_T {xs : List V} {K : List V → Prop} : getT (some (.T xs)) K = K xs := rfl
noncomputable def listP (v : V) (h : Hp) (K : List V → Prop) : Prop := match v with
  | .ref a => getL h[a]? K
  | _ => False
noncomputable def tupP (v : V) (h : Hp) (K : List V → Prop) : Prop := match v with
  | .ref a => getT h[a]? K
  | _ => False
noncomputable def isListAt (v : V) (xs : List V) (h : Hp) : Prop := match v with
  | .ref a => h[a]? = some (.L xs)
  | _ => False
noncomputable def intP (v : V) (K : Int → Prop) : Prop := match v with
  | .int k => K k
  | _ => False
noncomputable def boolP (v : V) (K : Bool → Prop) : Prop := match v with
  | .bool k => K k
  | _ => False
noncomputable def fnP (v : V) (K : Nat → Prop) : Prop := match v with
  | .fn k => K k
  | _ => False

noncomputable def catP (v u : V) (h : Hp) (Q : KV) : Prop := listP v h fun xs => listP u h fun ys => xs.length + ys.length ≤ big ∧ Q (.ref h.length) (h ++ [.L (xs ++ ys)])
noncomputable def rep1 (i : Nat) (xs : List V) (n : Int) (h : Hp) (Q : KV) : Prop := match xs with
  | [x] => (ro ≤ i ∧ 0 ≤ n ∧ n ≤ big) ∧ Q (.ref h.length) (h ++ [.L (List.replicate n.toNat x)])
  | _ => False
theorem rep1_one {i : Nat} {x : V} {n : Int} {h : Hp} {Q : KV} : rep1 i [x] n h Q = ((ro ≤ i ∧ 0 ≤ n ∧ n ≤ big) ∧ Q (.ref h.length) (h ++ [.L (List.replicate n.toNat x)])) := rfl
noncomputable def repP (v : V) (n : Int) (h : Hp) (Q : KV) : Prop := match v with
  | .ref i => getL h[i]? fun xs => rep1 i xs n h Q
  | _ => False
noncomputable def isRef : V → Bool
  | .ref _ => true
  | _ => false

noncomputable def bopP (op : Bop) (a b : V) (h : Hp) (Q : KV) : Prop := match op with
  | .add => bif isRef a then catP a b h Q else intP a fun a => intP b fun b => Q (.int (a + b)) h
  | .sub => intP a fun a => intP b fun b => Q (.int (a - b)) h
  | .mul => bif isRef a then intP b fun n => repP a n h Q else intP a fun a => intP b fun b => (a.natAbs < 2 ^ 63 ∧ b.natAbs < 2 ^ 63) ∧ Q (.int (a * b)) h
  | .fdiv => intP a fun a => intP b fun b => (b ≠ 0 ∧ b.natAbs < 2 ^ 30) ∧ Q (.int (a.fdiv b)) h
  | .mod => intP a fun a => intP b fun b => b ≠ 0 ∧ Q (.int (a.fmod b)) h
  | .shl => intP a fun a => intP b fun n => (0 ≤ n ∧ n ≤ 1000 ∧ a.natAbs < 2 ^ 64) ∧ Q (.int (a * 2 ^ n.toNat)) h
  | .shr => intP a fun a => intP b fun n => 0 ≤ n ∧ Q (.int (a.fdiv (2 ^ n.toNat))) h
  | .band => intP a fun a => intP b fun b => Q (.int (Builtin.bitAnd a b)) h
  | .bor => intP a fun a => intP b fun b => Q (.int (Builtin.bitOr a b)) h
  | .pow => intP a fun a => intP b fun n => (0 ≤ n ∧ n ≤ 1000 ∧ a.natAbs < 2 ^ 64) ∧ Q (.int (a ^ n.toNat)) h

mutual
inductive Den (h : Hp) : V → PyData → Prop where
  | b {x : Bool} : Den h (.bool x) (.bool x)
  | i {x : Int} : Den h (.int x) (.int x)
  | L {a : Nat} {xs : List V} {ds : List PyData} : h[a]? = some (.L xs) → Dens h xs ds → Den h (.ref a) (.list ds)
  | T {a : Nat} {xs : List V} {ds : List PyData} : h[a]? = some (.T xs) → Dens h xs ds → Den h (.ref a) (.tuple ds)
inductive Dens (h : Hp) : List V → List PyData → Prop where
  | nil : Dens h [] []
  | cons {v : V} {vs : List V} {d : PyData} {ds : List PyData} : Den h v d → Dens h vs ds → Dens h (v :: vs) (d :: ds)
end

noncomputable def isInt : V → Bool
  | .int _ => true
  | _ => false
noncomputable def isBool : V → Bool
  | .bool _ => true
  | _ => false
noncomputable def sameP (a b : V) (h : Hp) (K : Bool → Prop) : Prop := ∃ d, (Den h a d ∧ Den h b d ∧ d.depth ≤ 64) ∧ K false
noncomputable def copP (op : Cop) (a b : V) (h : Hp) (K : Bool → Prop) : Prop := match op with
  | .eq => bif isBool a then boolP a fun a => boolP b fun b => K (a == b) else intP a fun a => intP b fun b => K (a == b)
  | .ne => bif isRef a then sameP a b h K else bif isBool a then boolP a fun a => boolP b fun b => K (a != b) else intP a fun a => intP b fun b => K (a != b)
  | .lt => intP a fun a => intP b fun b => K (decide (a < b))
  | .le => intP a fun a => intP b fun b => K (decide (a ≤ b))
  | .gt => intP a fun a => intP b fun b => K (decide (b < a))
  | .ge => intP a fun a => intP b fun b => K (decide (b ≤ a))

noncomputable def ixO (o : Option Ob) (k : Int) (K : V → Prop) : Prop := match o with
  | some (.L xs) => (-(xs.length : Int) ≤ k ∧ k < xs.length) ∧ getP (xs[(if k < 0 then k + xs.length else k).toNat]?) K
  | some (.T xs) => (0 ≤ k ∧ k < xs.length) ∧ getP (xs[k.toNat]?) K
  | none => False
theorem ixO_L {xs : List V} {k : Int} {K : V → Prop} : ixO (some (.L xs)) k K = ((-(xs.length : Int) ≤ k ∧ k < xs.length) ∧ getP (xs[(if k < 0 then k + xs.length else k).toNat]?) K) := rfl
theorem ixO_T {xs : List V} {k : Int} {K : V → Prop} : ixO (some (.T xs)) k K = ((0 ≤ k ∧ k < xs.length) ∧ getP (xs[k.toNat]?) K) := rfl
noncomputable def ixP (v u : V) (h : Hp) (K : V → Prop) : Prop := match v with
  | .ref a => intP u fun k => ixO h[a]? k K
  | _ => False

noncomputable def rangeN (lo hi st : Int) : Nat := if st = 1 then (hi - lo).toNat else (lo - hi).toNat
noncomputable def rangeL (lo st : Int) : Nat → List Int
  | 0 => []
  | n + 1 => lo :: rangeL (lo + st) st n

noncomputable def sumP : List V → Int → (Int → Prop) → Prop
  | [], a, K => K a
  | v :: r, a, K => intP v fun x => sumP r (a + x) K

/-- the next step, or the way out -/
noncomputable def nextP (r : R) (lo : Lo) (h : Hp) (Q : KR) (K : Lo → Hp → Prop) : Prop := match r with
  | .next => K lo h
  | .ret u => Q (.ret u) lo h
theorem nextP_next {lo : Lo} {h : Hp} {Q : KR} {K : Lo → Hp → Prop} : nextP .next lo h Q K = K lo h := rfl
theorem nextP_ret {u : V} {lo : Lo} {h : Hp} {Q : KR} {K : Lo → Hp → Prop} : nextP (.ret u) lo h Q K = Q (.ret u) lo h := rfl
noncomputable def endP (r : R) (h : Hp) (Q : KV) : Prop := match r with
  | .ret v => Q v h
  | .next => Q .none h
theorem endP_ret {v : V} {h : Hp} {Q : KV} : endP (.ret v) h Q = Q v h := rfl
theorem endP_next {h : Hp} {Q : KV} : endP .next h Q = Q .none h := rfl

noncomputable def compP (chk : Hp → Prop) (f : V → Hp → (List V → Hp → Prop) → Prop) : List V → List V → Hp → (List V → Hp → Prop) → Prop
  | [], acc, h, K => chk h ∧ K acc h
  | v :: vs, acc, h, K => chk h ∧ f v h fun ys h => compP chk f vs (acc ++ ys) h K

noncomputable def forP {α : Type} (chk : Hp → Prop) (f : α → Lo → Hp → KR → Prop) : List α → Lo → Hp → KR → Prop
  | [], lo, h, K => chk h ∧ K .next lo h
  | v :: vs, lo, h, K => chk h ∧ f v lo h fun r lo h => nextP r lo h K fun lo h => forP chk f vs lo h K

noncomputable def whileP (test : Lo → Hp → (Bool → Hp → Prop) → Prop) (body : Lo → Hp → KR → Prop) : Nat → Lo → Hp → KR → Prop
  | 0, _, _, _ => False
  | n + 1, lo, h, K => test lo h fun b h => bif b then body lo h fun r lo h => nextP r lo h K fun lo h => whileP test body n lo h K else K .next lo h

noncomputable def bitLen (a : Int) : Int := (Builtin.Int.intBits a : Int)

mutual
noncomputable def wpE (C : Orc) : E → Lo → Hp → KV → Prop
  | .i n, _, h, Q => Q (.int n) h
  | .b v, _, h, Q => Q (.bool v) h
  | .x s, lo, h, Q => getP (lo s) fun v => Q v h
  | .g v, _, h, Q => Q v h
  | .bin op l r, lo, h, Q => wpE C l lo h fun a h => wpE C r lo h fun b h => bopP op a b h Q
  | .not e, lo, h, Q => wpE C e lo h fun v h => boolP v fun b => Q (.bool (!b)) h
  | .neg e, lo, h, Q => wpE C e lo h fun v h => intP v fun k => Q (.int (-k)) h
  | .cmp op l r, lo, h, Q => wpE C l lo h fun a h => wpE C r lo h fun b h => copP op a b h fun c => Q (.bool c) h
  | .and l r, lo, h, Q => wpE C l lo h fun v h => boolP v fun b => bif b then wpE C r lo h Q else Q (.bool false) h
  | .ite c t e, lo, h, Q => wpE C c lo h fun v h => boolP v fun b => bif b then wpE C t lo h Q else wpE C e lo h Q
  | .ix e k, lo, h, Q => wpE C e lo h fun v h => wpE C k lo h fun k h => ixP v k h fun x => Q x h
  | .slL e hi, lo, h, Q => wpE C e lo h fun v h => wpE C hi lo h fun k h => listP v h fun xs => intP k fun k => 0 ≤ k ∧ Q (.ref h.length) (h ++ [.L (xs.take k.toNat)])
  | .slM e l hi, lo, h, Q => wpE C e lo h fun v h => wpE C l lo h fun j h => wpE C hi lo h fun k h =>
      listP v h fun xs => intP j fun j => intP k fun k => (0 ≤ j ∧ j ≤ k ∧ k ≤ xs.length) ∧ Q (.ref h.length) (h ++ [.L ((xs.drop j.toNat).take (k.toNat - j.toNat))])
  | .slA e, lo, h, Q => wpE C e lo h fun v h => listP v h fun xs => Q (.ref h.length) (h ++ [.L xs])
  | .rev e, lo, h, Q => wpE C e lo h fun v h => listP v h fun xs => Q (.ref h.length) (h ++ [.L xs.reverse])
  | .lst es, lo, h, Q => wpEs C es lo h fun vs h => Q (.ref h.length) (h ++ [.L vs])
  | .tup es, lo, h, Q => wpEs C es lo h fun vs h => Q (.ref h.length) (h ++ [.T vs])
  | .call f as, lo, h, Q => wpE C f lo h fun v h => fnP v fun a => wpEs C as lo h fun vs h => C a vs h Q
  | .len e, lo, h, Q => wpE C e lo h fun v h => listP v h fun xs => Q (.int xs.length) h
  | .abs e, lo, h, Q => wpE C e lo h fun v h => intP v fun k => Q (.int k.natAbs) h
  | .toI e, lo, h, Q => wpE C e lo h fun v h => intP v fun k => Q (.int k) h
  | .sum e, lo, h, Q => wpE C e lo h fun v h => listP v h fun xs => sumP xs 0 fun k => Q (.int k) h
  | .bits e, lo, h, Q => wpE C e lo h fun v h => intP v fun k => Q (.int (bitLen k)) h
  | .min l r, lo, h, Q => wpE C l lo h fun a h => wpE C r lo h fun b h => intP a fun a => intP b fun b => Q (.int (if b < a then b else a)) h
  | .cmpL e s elt, lo, h, Q => wpE C e lo h fun v h => listP v h fun xs =>
      compP (isListAt v xs) (fun v h K => wpE C elt (upd lo s v) h fun y h => K [y] h) xs [] h fun ys h => Q (.ref h.length) (h ++ [.L ys])
  | .cmpR l hi s elt, lo, h, Q => wpE C l lo h fun a h => wpE C hi lo h fun b h => intP a fun a => intP b fun b =>
      (a.natAbs < 2 ^ 20 ∧ b.natAbs < 2 ^ 20) ∧
      compP (fun _ => True) (fun v h K => wpE C elt (upd lo s v) h fun y h => K [y] h) ((rangeL a 1 (rangeN a b 1)).map .int) [] h fun ys h => Q (.ref h.length) (h ++ [.L ys])
  | .cmpF l hi s c elt, lo, h, Q => wpE C l lo h fun a h => wpE C hi lo h fun b h => intP a fun a => intP b fun b =>
      (a.natAbs < 2 ^ 20 ∧ b.natAbs < 2 ^ 20) ∧
      compP (fun _ => True) (fun v h K => wpE C c (upd lo s v) h fun t h => boolP t fun t => bif t then wpE C elt (upd lo s v) h fun y h => K [y] h else K [] h)
        ((rangeL a 1 (rangeN a b 1)).map .int) [] h fun ys h => Q (.ref h.length) (h ++ [.L ys])
noncomputable def wpEs (C : Orc) : List E → Lo → Hp → (List V → Hp → Prop) → Prop
  | [], _, h, Q => Q [] h
  | e :: r, lo, h, Q => wpE C e lo h fun v h => wpEs C r lo h fun vs h => Q (v :: vs) h
end


noncomputable def setP (o : V) (u v : V) (h : Hp) (K : Hp → Prop) : Prop := match o with
  | .ref a => intP u fun k => getL h[a]? fun xs => (ro ≤ a ∧ 0 ≤ k ∧ k < xs.length) ∧ K (h.set a (.L (xs.set k.toNat v)))
  | _ => False
noncomputable def newP : V → Prop
  | .ref a => ro ≤ a
  | _ => False
noncomputable def appP (o : V) (v : V) (h : Hp) (K : Hp → Prop) : Prop := match o with
  | .ref a => getL h[a]? fun xs => (ro ≤ a ∧ xs.length < big) ∧ K (h.set a (.L (xs ++ [v])))
  | _ => False

noncomputable def wpT (C : Orc) : T → V → Lo → Hp → (Lo → Hp → Prop) → Prop
  | .nm s, v, lo, h, K => K (upd lo s v) h
  | .sub o k, v, lo, h, K => wpE C o lo h fun a h => wpE C k lo h fun k h => setP a k v h fun h => K lo h
noncomputable def wpTs (C : Orc) : List T → List V → Lo → Hp → (Lo → Hp → Prop) → Prop
  | [], [], lo, h, K => K lo h
  | t :: ts, v :: vs, lo, h, K => wpT C t v lo h fun lo h => wpTs C ts vs lo h K
  | _, _, _, _, _ => False

mutual
noncomputable def wpS (C : Orc) : S → Lo → Hp → KR → Prop
  | .asg t e, lo, h, Q => wpE C e lo h fun v h => wpT C t v lo h fun lo h => Q .next lo h
  | .asgT ts es, lo, h, Q => wpEs C es lo h fun vs h => wpTs C ts vs lo h fun lo h => Q .next lo h
  | .unp ss e, lo, h, Q => wpE C e lo h fun v h => tupP v h fun vs => wpTs C (ss.map .nm) vs lo h fun lo h => Q .next lo h
  | .aug s op e, lo, h, Q => getP (lo s) fun a => wpE C e lo h fun b h => (∃ i, a = .int i) ∧ bopP op a b h fun v h => Q .next (upd lo s v) h
  | .app o v, lo, h, Q => wpE C o lo h fun a h => newP a ∧ listP a h fun _ => wpE C v lo h fun v h => appP a v h fun h => Q .next lo h
  | .ex e, lo, h, Q => wpE C e lo h fun _ h => Q .next lo h
  | .ife c t e, lo, h, Q => wpE C c lo h fun v h => boolP v fun b => bif b then wpSs C t lo h Q else wpSs C e lo h Q
  | .whl c b, lo, h, Q => ∃ n, whileP (fun lo h K => wpE C c lo h fun v h => boolP v fun b => K b h) (fun lo h K => wpSs C b lo h K) n lo h Q
  | .forR s l hi st b, lo, h, Q => wpE C l lo h fun x h => wpE C hi lo h fun y h => wpE C st lo h fun z h => intP x fun x => intP y fun y => intP z fun z =>
      (x.natAbs < 2 ^ 20 ∧ y.natAbs < 2 ^ 20 ∧ (z = 1 ∨ z = -1)) ∧
      forP (fun _ => True) (fun v lo h K => wpSs C b (upd lo s (.int v)) h K) (rangeL x z (rangeN x y z)) lo h Q
  | .forL s e b, lo, h, Q => wpE C e lo h fun v h => listP v h fun xs =>
      forP (isListAt v xs) (fun v lo h K => wpSs C b (upd lo s v) h K) xs lo h Q
  | .forE s1 s2 e b, lo, h, Q => wpE C e lo h fun v h => listP v h fun xs =>
      forP (isListAt v xs) (fun (p : V × Nat) lo h K => wpSs C b (upd (upd lo s1 (.int p.2)) s2 p.1) h K) xs.zipIdx lo h Q
  | .ret e, lo, h, Q => wpE C e lo h fun v h => Q (.ret v) lo h
  | .bad, _, _, _ => False
noncomputable def wpSs (C : Orc) : List S → Lo → Hp → KR → Prop
  | [], lo, h, Q => Q .next lo h
  | s :: r, lo, h, Q => wpS C s lo h fun t lo h => nextP t lo h Q fun lo h => wpSs C r lo h Q
end

abbrev Prg := Nat → Option (Nat × List S)
noncomputable def callB (P : Prg) (C : Orc) (f : Nat) (vs : List V) (h : Hp) (Q : KV) : Prop := getP (P f) fun p => p.1 = vs.length ∧ wpSs C p.2 (fun s => vs[s]?) h fun r _ h => endP r h Q
noncomputable def callE (P : Prg) : Nat → Orc
  | 0 => fun _ _ _ _ => False
  | d + 1 => callB P (callE P d)
/-- calls, hidden from computing -/
theorem callD_ex : ∃ F : Prg → Nat → Orc, (∀ P f vs h Q, F P 0 f vs h Q = False) ∧ ∀ P d f vs h Q, F P (d + 1) f vs h Q = callB P (F P d) f vs h Q :=
  ⟨callE, fun _ _ _ _ _ => rfl, fun _ _ _ _ _ _ => rfl⟩
noncomputable def callD : Prg → Nat → Orc := Classical.choose callD_ex
theorem callD_zero {P : Prg} {f : Nat} {vs : List V} {h : Hp} {Q : KV} : callD P 0 f vs h Q = False := (Classical.choose_spec callD_ex).1 P f vs h Q
theorem callD_succ {P : Prg} {d f : Nat} {vs : List V} {h : Hp} {Q : KV} : callD P (d + 1) f vs h Q = getP (P f) fun p => p.1 = vs.length ∧ wpSs (callD P d) p.2 (fun s => vs[s]?) h fun r _ h => endP r h Q :=
  (Classical.choose_spec callD_ex).2 P d f vs h Q

/-! ## one equation for each form -/
theorem qE0 (C : Orc) (n z1 h Q) : wpE C (.i n) z1 h Q = (Q (.int n) h) := rfl
theorem qE1 (C : Orc) (v z1 h Q) : wpE C (.b v) z1 h Q = (Q (.bool v) h) := rfl
theorem qE2 (C : Orc) (s lo h Q) : wpE C (.x s) lo h Q = (getP (lo s) fun v => Q v h) := rfl
theorem qE3 (C : Orc) (v z1 h Q) : wpE C (.g v) z1 h Q = (Q v h) := rfl
theorem qE4 (C : Orc) (op l r lo h Q) : wpE C (.bin op l r) lo h Q = (wpE C l lo h fun a h => wpE C r lo h fun b h => bopP op a b h Q) := rfl
theorem qE5 (C : Orc) (e lo h Q) : wpE C (.not e) lo h Q = (wpE C e lo h fun v h => boolP v fun b => Q (.bool (!b)) h) := rfl
theorem qE6 (C : Orc) (e lo h Q) : wpE C (.neg e) lo h Q = (wpE C e lo h fun v h => intP v fun k => Q (.int (-k)) h) := rfl
theorem qE7 (C : Orc) (op l r lo h Q) : wpE C (.cmp op l r) lo h Q = (wpE C l lo h fun a h => wpE C r lo h fun b h => copP op a b h fun c => Q (.bool c) h) := rfl
theorem qE8 (C : Orc) (l r lo h Q) : wpE C (.and l r) lo h Q = (wpE C l lo h fun v h => boolP v fun b => bif b then wpE C r lo h Q else Q (.bool false) h) := rfl
theorem qE9 (C : Orc) (c t e lo h Q) : wpE C (.ite c t e) lo h Q = (wpE C c lo h fun v h => boolP v fun b => bif b then wpE C t lo h Q else wpE C e lo h Q) := rfl
theorem qE10 (C : Orc) (e k lo h Q) : wpE C (.ix e k) lo h Q = (wpE C e lo h fun v h => wpE C k lo h fun k h => ixP v k h fun x => Q x h) := rfl
theorem qE11 (C : Orc) (e hi lo h Q) : wpE C (.slL e hi) lo h Q = (wpE C e lo h fun v h => wpE C hi lo h fun k h => listP v h fun xs => intP k fun k => 0 ≤ k ∧ Q (.ref h.length) (h ++ [.L (xs.take k.toNat)])) := rfl
theorem qE12 (C : Orc) (e l hi lo h Q) : wpE C (.slM e l hi) lo h Q = (wpE C e lo h fun v h => wpE C l lo h fun j h => wpE C hi lo h fun k h =>
      listP v h fun xs => intP j fun j => intP k fun k => (0 ≤ j ∧ j ≤ k ∧ k ≤ xs.length) ∧ Q (.ref h.length) (h ++ [.L ((xs.drop j.toNat).take (k.toNat - j.toNat))])) := rfl
theorem qE13 (C : Orc) (e lo h Q) : wpE C (.slA e) lo h Q = (wpE C e lo h fun v h => listP v h fun xs => Q (.ref h.length) (h ++ [.L xs])) := rfl
theorem qE14 (C : Orc) (e lo h Q) : wpE C (.rev e) lo h Q = (wpE C e lo h fun v h => listP v h fun xs => Q (.ref h.length) (h ++ [.L xs.reverse])) := rfl
theorem qE15 (C : Orc) (es lo h Q) : wpE C (.lst es) lo h Q = (wpEs C es lo h fun vs h => Q (.ref h.length) (h ++ [.L vs])) := rfl
theorem qE16 (C : Orc) (es lo h Q) : wpE C (.tup es) lo h Q = (wpEs C es lo h fun vs h => Q (.ref h.length) (h ++ [.T vs])) := rfl
theorem qE17 (C : Orc) (f as lo h Q) : wpE C (.call f as) lo h Q = (wpE C f lo h fun v h => fnP v fun a => wpEs C as lo h fun vs h => C a vs h Q) := rfl
theorem qE18 (C : Orc) (e lo h Q) : wpE C (.len e) lo h Q = (wpE C e lo h fun v h => listP v h fun xs => Q (.int xs.length) h) := rfl
theorem qE19 (C : Orc) (e lo h Q) : wpE C (.abs e) lo h Q = (wpE C e lo h fun v h => intP v fun k => Q (.int k.natAbs) h) := rfl
theorem qE20 (C : Orc) (e lo h Q) : wpE C (.toI e) lo h Q = (wpE C e lo h fun v h => intP v fun k => Q (.int k) h) := rfl
theorem qE21 (C : Orc) (e lo h Q) : wpE C (.sum e) lo h Q = (wpE C e lo h fun v h => listP v h fun xs => sumP xs 0 fun k => Q (.int k) h) := rfl
theorem qE22 (C : Orc) (e lo h Q) : wpE C (.bits e) lo h Q = (wpE C e lo h fun v h => intP v fun k => Q (.int (bitLen k)) h) := rfl
theorem qE23 (C : Orc) (l r lo h Q) : wpE C (.min l r) lo h Q = (wpE C l lo h fun a h => wpE C r lo h fun b h => intP a fun a => intP b fun b => Q (.int (if b < a then b else a)) h) := rfl
theorem qE24 (C : Orc) (e s elt lo h Q) : wpE C (.cmpL e s elt) lo h Q = (wpE C e lo h fun v h => listP v h fun xs =>
      compP (isListAt v xs) (fun v h K => wpE C elt (upd lo s v) h fun y h => K [y] h) xs [] h fun ys h => Q (.ref h.length) (h ++ [.L ys])) := rfl
theorem qE25 (C : Orc) (l hi s elt lo h Q) : wpE C (.cmpR l hi s elt) lo h Q = (wpE C l lo h fun a h => wpE C hi lo h fun b h => intP a fun a => intP b fun b =>
      (a.natAbs < 2 ^ 20 ∧ b.natAbs < 2 ^ 20) ∧
      compP (fun _ => True) (fun v h K => wpE C elt (upd lo s v) h fun y h => K [y] h) ((rangeL a 1 (rangeN a b 1)).map .int) [] h fun ys h => Q (.ref h.length) (h ++ [.L ys])) := rfl
theorem qE26 (C : Orc) (l hi s c elt lo h Q) : wpE C (.cmpF l hi s c elt) lo h Q = (wpE C l lo h fun a h => wpE C hi lo h fun b h => intP a fun a => intP b fun b =>
      (a.natAbs < 2 ^ 20 ∧ b.natAbs < 2 ^ 20) ∧
      compP (fun _ => True) (fun v h K => wpE C c (upd lo s v) h fun t h => boolP t fun t => bif t then wpE C elt (upd lo s v) h fun y h => K [y] h else K [] h)
        ((rangeL a 1 (rangeN a b 1)).map .int) [] h fun ys h => Q (.ref h.length) (h ++ [.L ys])) := rfl
theorem qEs0 (C : Orc) (z1 h Q) : wpEs C [] z1 h Q = (Q [] h) := rfl
theorem qEs1 (C : Orc) (e r lo h Q) : wpEs C (e :: r) lo h Q = (wpE C e lo h fun v h => wpEs C r lo h fun vs h => Q (v :: vs) h) := rfl
theorem qT0 (C : Orc) (s v lo h K) : wpT C (.nm s) v lo h K = (K (upd lo s v) h) := rfl
theorem qT1 (C : Orc) (o k v lo h K) : wpT C (.sub o k) v lo h K = (wpE C o lo h fun a h => wpE C k lo h fun k h => setP a k v h fun h => K lo h) := rfl
theorem qTs0 (C : Orc) (lo h K) : wpTs C [] [] lo h K = (K lo h) := rfl
theorem qTs1 (C : Orc) (t ts v vs lo h K) : wpTs C (t :: ts) (v :: vs) lo h K = (wpT C t v lo h fun lo h => wpTs C ts vs lo h K) := rfl
theorem qS0 (C : Orc) (t e lo h Q) : wpS C (.asg t e) lo h Q = (wpE C e lo h fun v h => wpT C t v lo h fun lo h => Q .next lo h) := rfl
theorem qS1 (C : Orc) (ts es lo h Q) : wpS C (.asgT ts es) lo h Q = (wpEs C es lo h fun vs h => wpTs C ts vs lo h fun lo h => Q .next lo h) := rfl
theorem qS2 (C : Orc) (ss e lo h Q) : wpS C (.unp ss e) lo h Q = (wpE C e lo h fun v h => tupP v h fun vs => wpTs C (ss.map .nm) vs lo h fun lo h => Q .next lo h) := rfl
theorem qS3 (C : Orc) (s op e lo h Q) : wpS C (.aug s op e) lo h Q = (getP (lo s) fun a => wpE C e lo h fun b h => (∃ i, a = .int i) ∧ bopP op a b h fun v h => Q .next (upd lo s v) h) := rfl
theorem qS4 (C : Orc) (o v lo h Q) : wpS C (.app o v) lo h Q = (wpE C o lo h fun a h => newP a ∧ listP a h fun _ => wpE C v lo h fun v h => appP a v h fun h => Q .next lo h) := rfl
theorem qS5 (C : Orc) (e lo h Q) : wpS C (.ex e) lo h Q = (wpE C e lo h fun _ h => Q .next lo h) := rfl
theorem qS6 (C : Orc) (c t e lo h Q) : wpS C (.ife c t e) lo h Q = (wpE C c lo h fun v h => boolP v fun b => bif b then wpSs C t lo h Q else wpSs C e lo h Q) := rfl
theorem qS7 (C : Orc) (c b lo h Q) : wpS C (.whl c b) lo h Q = (∃ n, whileP (fun lo h K => wpE C c lo h fun v h => boolP v fun b => K b h) (fun lo h K => wpSs C b lo h K) n lo h Q) := rfl
theorem qS8 (C : Orc) (s l hi st b lo h Q) : wpS C (.forR s l hi st b) lo h Q = (wpE C l lo h fun x h => wpE C hi lo h fun y h => wpE C st lo h fun z h => intP x fun x => intP y fun y => intP z fun z =>
      (x.natAbs < 2 ^ 20 ∧ y.natAbs < 2 ^ 20 ∧ (z = 1 ∨ z = -1)) ∧
      forP (fun _ => True) (fun v lo h K => wpSs C b (upd lo s (.int v)) h K) (rangeL x z (rangeN x y z)) lo h Q) := rfl
theorem qS9 (C : Orc) (s e b lo h Q) : wpS C (.forL s e b) lo h Q = (wpE C e lo h fun v h => listP v h fun xs =>
      forP (isListAt v xs) (fun v lo h K => wpSs C b (upd lo s v) h K) xs lo h Q) := rfl
theorem qS10 (C : Orc) (s1 s2 e b lo h Q) : wpS C (.forE s1 s2 e b) lo h Q = (wpE C e lo h fun v h => listP v h fun xs =>
      forP (isListAt v xs) (fun (p : V × Nat) lo h K => wpSs C b (upd (upd lo s1 (.int p.2)) s2 p.1) h K) xs.zipIdx lo h Q) := rfl
theorem qS11 (C : Orc) (e lo h Q) : wpS C (.ret e) lo h Q = (wpE C e lo h fun v h => Q (.ret v) lo h) := rfl
theorem qS12 (C : Orc) (z1 z2 z3) : wpS C (.bad) z1 z2 z3 = (False) := rfl
theorem qSs0 (C : Orc) (lo h Q) : wpSs C [] lo h Q = (Q .next lo h) := rfl
theorem qSs1 (C : Orc) (s r lo h Q) : wpSs C (s :: r) lo h Q = (wpS C s lo h fun t lo h => nextP t lo h Q fun lo h => wpSs C r lo h Q) := rfl

/-! ## the same, as equations by computing -/
section
variable {a b n : Int} {x y : Bool} {i j : Nat} {v : V} {h : Hp} {Q : KV} {K : V → Prop} {KB : Bool → Prop} {KI : Int → Prop} {KN : Nat → Prop} {KL : List V → Prop} {KH : Hp → Prop}
theorem intP_i : intP (.int a) KI = KI a := rfl
theorem boolP_b : boolP (.bool x) KB = KB x := rfl
theorem fnP_f : fnP (.fn i) KN = KN i := rfl
theorem listP_r : listP (.ref i) h KL = getL h[i]? KL := rfl
theorem tupP_r : tupP (.ref i) h KL = getT h[i]? KL := rfl
theorem bA : bopP .add (.int a) (.int b) h Q = Q (.int (a + b)) h := rfl
theorem bC : bopP .add (.ref i) (.ref j) h Q = getL h[i]? fun xs => getL h[j]? fun ys => xs.length + ys.length ≤ big ∧ Q (.ref h.length) (h ++ [.L (xs ++ ys)]) := rfl
theorem bS : bopP .sub (.int a) (.int b) h Q = Q (.int (a - b)) h := rfl
theorem bM : bopP .mul (.int a) (.int b) h Q = ((a.natAbs < 2 ^ 63 ∧ b.natAbs < 2 ^ 63) ∧ Q (.int (a * b)) h) := rfl
theorem bR : bopP .mul (.ref i) (.int n) h Q = getL h[i]? fun xs => rep1 i xs n h Q := rfl
theorem bD : bopP .fdiv (.int a) (.int b) h Q = ((b ≠ 0 ∧ b.natAbs < 2 ^ 30) ∧ Q (.int (a.fdiv b)) h) := rfl
theorem bO : bopP .mod (.int a) (.int b) h Q = (b ≠ 0 ∧ Q (.int (a.fmod b)) h) := rfl
theorem bL : bopP .shl (.int a) (.int n) h Q = ((0 ≤ n ∧ n ≤ 1000 ∧ a.natAbs < 2 ^ 64) ∧ Q (.int (a * 2 ^ n.toNat)) h) := rfl
theorem bH : bopP .shr (.int a) (.int n) h Q = (0 ≤ n ∧ Q (.int (a.fdiv (2 ^ n.toNat))) h) := rfl
theorem bN : bopP .band (.int a) (.int b) h Q = Q (.int (Builtin.bitAnd a b)) h := rfl
theorem bU : bopP .bor (.int a) (.int b) h Q = Q (.int (Builtin.bitOr a b)) h := rfl
theorem bP : bopP .pow (.int a) (.int n) h Q = ((0 ≤ n ∧ n ≤ 1000 ∧ a.natAbs < 2 ^ 64) ∧ Q (.int (a ^ n.toNat)) h) := rfl
theorem cQ : copP .eq (.int a) (.int b) h KB = KB (a == b) := rfl
theorem cN : copP .ne (.int a) (.int b) h KB = KB (a != b) := rfl
theorem cL : copP .lt (.int a) (.int b) h KB = KB (decide (a < b)) := rfl
theorem cM : copP .le (.int a) (.int b) h KB = KB (decide (a ≤ b)) := rfl
theorem cG : copP .gt (.int a) (.int b) h KB = KB (decide (b < a)) := rfl
theorem cH : copP .ge (.int a) (.int b) h KB = KB (decide (b ≤ a)) := rfl
theorem cX : copP .eq (.bool x) (.bool y) h KB = KB (x == y) := rfl
theorem cY : copP .ne (.bool x) (.bool y) h KB = KB (x != y) := rfl
theorem cR : copP .ne (.ref i) (.ref j) h KB = ∃ d, (Den h (.ref i) d ∧ Den h (.ref j) d ∧ d.depth ≤ 64) ∧ KB false := rfl
theorem iX : ixP (.ref i) (.int n) h K = ixO h[i]? n K := rfl
theorem sP : setP (.ref i) (.int n) v h KH = getL h[i]? fun xs => (ro ≤ i ∧ 0 ≤ n ∧ n < xs.length) ∧ KH (h.set i (.L (xs.set n.toNat v))) := rfl
theorem aP : appP (.ref i) v h KH = getL h[i]? fun xs => (ro ≤ i ∧ xs.length < big) ∧ KH (h.set i (.L (xs ++ [v]))) := rfl
theorem nP : newP (.ref i) = (ro ≤ i) := rfl
end
end Mine
end

set_option linter.unusedVariables false
set_option autoImplicit false
namespace Mine
open PySem PySem.Calls PyProof.Rows

/-! ## what stands for what -/
noncomputable def fnAddrs : List Nat := addrs.map (·.2)
noncomputable def RV (φ : List Addr) : V → Value → Prop
  | .none, w => w = .none
  | .bool b, w => w = .bool b
  | .int i, w => ∃ t, w = .int i t
  | .ref i, w => ∃ a, φ[i]? = some a ∧ w = .ref a
  | .fn f, w => w = .ref f ∧ f ∈ fnAddrs

inductive RVs (φ : List Addr) : List V → List Value → Prop where
  | nil : RVs φ [] []
  | cons {v : V} {w : Value} {vs : List V} {ws : List Value} : RV φ v w → RVs φ vs ws → RVs φ (v :: vs) (w :: ws)

theorem RV.grow {φ ψ : List Addr} {v : V} {w : Value} (h : RV φ v w) : RV (φ ++ ψ) v w := by
  cases v with
  | ref i =>
    obtain ⟨a, ha, rfl⟩ := h
    refine ⟨a, ?_, rfl⟩
    have := (List.getElem?_eq_some_iff.mp ha).1
    rw [List.getElem?_append_left this]; exact ha
  | _ => exact h
theorem RVs.grow {φ ψ : List Addr} {vs : List V} {ws : List Value} (h : RVs φ vs ws) : RVs (φ ++ ψ) vs ws := by
  induction h with
  | nil => exact .nil
  | cons h _ ih => exact .cons h.grow ih
theorem RVs.len {φ : List Addr} {vs : List V} {ws : List Value} (h : RVs φ vs ws) : vs.length = ws.length := by
  induction h with
  | nil => rfl
  | cons _ _ ih => simp [ih]
theorem RVs.get {φ : List Addr} {vs : List V} {ws : List Value} (h : RVs φ vs ws) : ∀ (i : Nat) (v : V), vs[i]? = some v → ∃ w, ws[i]? = some w ∧ RV φ v w := by
  induction h with
  | nil => intro i v h; simp at h
  | cons h _ ih =>
    intro i v hv
    cases i with
    | zero => simp at hv; subst hv; exact ⟨_, rfl, h⟩
    | succ i => simp at hv; simpa using ih i v hv
theorem RVs.append {φ : List Addr} {vs vs' : List V} {ws ws' : List Value} (h : RVs φ vs ws) (h' : RVs φ vs' ws') : RVs φ (vs ++ vs') (ws ++ ws') := by
  induction h with
  | nil => exact h'
  | cons h _ ih => exact .cons h ih
theorem RVs.set {φ : List Addr} {vs : List V} {ws : List Value} (h : RVs φ vs ws) {v : V} {w : Value} (hv : RV φ v w) : ∀ i : Nat, RVs φ (vs.set i v) (ws.set i w) := by
  induction h with
  | nil => intro i; exact .nil
  | cons h h' ih =>
    intro i
    cases i with
    | zero => exact .cons hv h'
    | succ i => exact .cons h (ih i)
theorem RVs.take {φ : List Addr} {vs : List V} {ws : List Value} (h : RVs φ vs ws) : ∀ n : Nat, RVs φ (vs.take n) (ws.take n) := by
  induction h with
  | nil => intro n; simp; exact .nil
  | cons h h' ih =>
    intro n
    cases n with
    | zero => exact .nil
    | succ n => exact .cons h (ih n)
theorem RVs.drop {φ : List Addr} {vs : List V} {ws : List Value} (h : RVs φ vs ws) : ∀ n : Nat, RVs φ (vs.drop n) (ws.drop n) := by
  induction h with
  | nil => intro n; simp; exact .nil
  | cons h h' ih =>
    intro n
    cases n with
    | zero => exact .cons h h'
    | succ n => exact ih n
theorem RVs.reverse {φ : List Addr} {vs : List V} {ws : List Value} (h : RVs φ vs ws) : RVs φ vs.reverse ws.reverse := by
  induction h with
  | nil => exact .nil
  | cons h h' ih => rw [List.reverse_cons, List.reverse_cons]; exact ih.append (.cons h .nil)
theorem RVs.replicate {φ : List Addr} {v : V} {w : Value} (h : RV φ v w) : ∀ n : Nat, RVs φ (List.replicate n v) (List.replicate n w)
  | 0 => .nil
  | n + 1 => .cons h (RVs.replicate h n)

theorem nodup_inj {l : List Addr} (h : l.Nodup) : ∀ {i j : Nat} {a : Addr}, l[i]? = some a → l[j]? = some a → i = j := by
  induction l with
  | nil => intro i j a hi; simp at hi
  | cons x r ih =>
    intro i j a hi hj
    rw [List.nodup_cons] at h
    cases i with
    | zero => cases j with
      | zero => rfl
      | succ j =>
        simp at hi hj; subst hi
        exact absurd (List.mem_of_getElem? hj) h.1
    | succ i => cases j with
      | zero =>
        simp at hi hj; subst hj
        exact absurd (List.mem_of_getElem? hi) h.1
      | succ j => simp at hi hj; rw [ih h.2 hi hj]

/-- the heap bears the abstract object at the address -/
noncomputable def ObRep (φ : List Addr) (hh : Heap) (a : Addr) : Ob → Prop
  | .L xs => ∃ ws : List Value, xs.length ≤ big ∧ RVs φ xs ws ∧ hh.IsList a ws.toArray
  | .T xs => ∃ ws : List Value, xs.length ≤ big ∧ RVs φ xs ws ∧ hh.IsTuple a ws.toArray

structure Rep (hb : Heap) (φ₀ φ : List Addr) (h : Hp) (hh : Heap) : Prop where
  stays : ∀ b o, hb.get? b = some o → hh.get? b = some o
  nodup : ∀ (i j : Nat) (a : Addr), ro ≤ i → φ[i]? = some a → φ[j]? = some a → i = j
  len : φ.length = h.length
  five : ro ≤ φ.length
  obj : ∀ (i : Nat) (ob : Ob), h[i]? = some ob → ∃ a, φ[i]? = some a ∧ ObRep φ hh a ob
  plain : ∀ (i : Nat) (xs : List V) (a : Addr), ro ≤ i → h[i]? = some (.L xs) → φ[i]? = some a → ∃ its, hh.PlainList a its
  new : ∀ a ∈ φ.drop ro, hb.get? a = none
  pre : ∃ t, φ = φ₀ ++ t

structure Step (φ : List Addr) (own : List Addr) (s s' : Shared) (φ' : List Addr) : Prop where
  same : ∃ hh tk, s' = { s with heap := hh, toks := tk }
  pre : ∃ ψ, φ' = φ ++ ψ ∧ ∀ a ∈ ψ, s.heap.get? a = none
  frame : ∀ b o, b ∉ φ.drop ro → b ∉ own → s.heap.get? b = some o → s'.heap.get? b = some o
  live : ∀ b o, s.heap.get? b = some o → ∃ o', s'.heap.get? b = some o'

theorem Step.refl (φ : List Addr) (own : List Addr) (s : Shared) : Step φ own s s φ := ⟨⟨_, _, rfl⟩, ⟨[], by simp, by simp⟩, fun _ _ _ _ e => e, fun _ o e => ⟨o, e⟩⟩

theorem Step.trans {φ φ₁ φ₂ own : List Addr} {s s₁ s₂ : Shared} (x : Step φ own s s₁ φ₁) (y : Step φ₁ own s₁ s₂ φ₂) (h5 : ro ≤ φ.length) : Step φ own s s₂ φ₂ := by
  obtain ⟨⟨hh, tk, rfl⟩, ⟨ψ, rfl, hψ⟩, fr, sz⟩ := x
  obtain ⟨⟨hh', tk', rfl⟩, ⟨ψ', rfl, hψ'⟩, fr', sz'⟩ := y
  refine ⟨⟨_, _, rfl⟩, ⟨ψ ++ ψ', by simp, fun a ha => ?_⟩, fun b o hb ho e => ?_, fun b o e => ?_⟩
  · rcases List.mem_append.mp ha with h | h
    · exact hψ a h
    · cases e : s.heap.get? a with
      | none => rfl
      | some o =>
        obtain ⟨o', e'⟩ := sz a o e
        rw [hψ' a h] at e'; cases e'
  · refine fr' b o ?_ ho (fr b o hb ho e)
    rw [List.drop_append_of_le_length h5]
    intro hm
    rcases List.mem_append.mp hm with h | h
    · exact hb h
    · rw [hψ b h] at e; cases e
  · obtain ⟨o', e'⟩ := sz b o e
    exact sz' b o' e'

/-- an own address of the caller's that the callee does not know -/
theorem Step.own_mono {φ φ' own own' : List Addr} {s s' : Shared} (x : Step φ own s s' φ') (h : ∀ a ∈ own, a ∈ own') : Step φ own' s s' φ' :=
  ⟨x.same, x.pre, fun b o hb ho e => x.frame b o hb (fun hm => ho (h b hm)) e, x.live⟩

theorem ObRep.grow {φ ψ : List Addr} {hh : Heap} {a : Addr} {ob : Ob} (h : ObRep φ hh a ob) : ObRep (φ ++ ψ) hh a ob := by
  cases ob <;> (obtain ⟨ws, hl, hr, hi⟩ := h; exact ⟨ws, hl, hr.grow, hi⟩)
theorem ObRep.at {φ : List Addr} {hh hh' : Heap} {a : Addr} {ob : Ob} (h : ObRep φ hh a ob) (e : ∀ o, hh.get? a = some o → hh'.get? a = some o) : ObRep φ hh' a ob := by
  cases ob with
  | L xs => obtain ⟨ws, hl, hr, ⟨o, ho, r⟩⟩ := h; exact ⟨ws, hl, hr, o, e o ho, r⟩
  | T xs => obtain ⟨ws, hl, hr, ⟨o, ho, r⟩⟩ := h; exact ⟨ws, hl, hr, o, e o ho, r⟩
theorem ObRep.some {φ : List Addr} {hh : Heap} {a : Addr} {ob : Ob} (h : ObRep φ hh a ob) : ∃ o, hh.get? a = some o := by
  cases ob with
  | L xs => obtain ⟨ws, hl, hr, ⟨o, ho, r⟩⟩ := h; exact ⟨o, ho⟩
  | T xs => obtain ⟨ws, hl, hr, ⟨o, ho, r⟩⟩ := h; exact ⟨o, ho⟩

/-- nothing of the abstract heap is touched -/
theorem Rep.keep {hb : Heap} {φ₀ φ : List Addr} {h : Hp} {hh hh' : Heap} (R : Rep hb φ₀ φ h hh) (k : ∀ b o, b ∈ φ ∨ hb.get? b = some o → hh.get? b = some o → hh'.get? b = some o) : Rep hb φ₀ φ h hh' where
  stays := fun b o e => k b o (.inr e) (R.stays b o e)
  nodup := R.nodup
  len := R.len
  five := R.five
  obj := fun i ob e => by
    obtain ⟨a, ha, r⟩ := R.obj i ob e
    exact ⟨a, ha, r.at fun o ho => k a o (.inl (List.mem_of_getElem? ha)) ho⟩
  plain := fun i xs a hi e ha => by
    obtain ⟨its, n, r⟩ := R.plain i xs a hi e ha
    exact ⟨its, n, k a _ (.inl (List.mem_of_getElem? ha)) r⟩
  new := R.new
  pre := R.pre
theorem Rep.keeps {hb : Heap} {φ₀ φ : List Addr} {h : Hp} {hh hh' : Heap} (R : Rep hb φ₀ φ h hh) (k : ∀ b o, hh.get? b = some o → hh'.get? b = some o) : Rep hb φ₀ φ h hh' := R.keep fun b o _ e => k b o e
theorem Rep.live {hb : Heap} {φ₀ φ : List Addr} {h : Hp} {hh : Heap} (R : Rep hb φ₀ φ h hh) {a : Addr} (ha : a ∈ φ) : ∃ o, hh.get? a = some o := by
  obtain ⟨i, hi⟩ := List.getElem?_of_mem ha
  have hl := (List.getElem?_eq_some_iff.mp hi).1
  rw [R.len] at hl
  obtain ⟨a', ha', r⟩ := R.obj i h[i] (by simp [hl])
  rw [hi] at ha'; cases ha'
  exact r.some
theorem Rep.fresh {hb : Heap} {φ₀ φ : List Addr} {h : Hp} {hh : Heap} (R : Rep hb φ₀ φ h hh) {a : Addr} (ha : hh.get? a = none) : hb.get? a = none := by
  cases e : hb.get? a with
  | none => rfl
  | some o => have := R.stays a o e; rw [ha] at this; cases this
theorem get_size (h : Heap) : h.get? h.objs.size = none := by
  cases e : h.get? h.objs.size with
  | none => rfl
  | some o => exact absurd (Heap.lt_size e) (Nat.lt_irrefl _)

/-- an object that the heap bears already -/
theorem Rep.adopt {hb : Heap} {φ₀ φ : List Addr} {h : Hp} {hh : Heap} (R : Rep hb φ₀ φ h hh) {a : Addr} {ob : Ob} (ha : a ∉ φ) (hbn : hb.get? a = none)
    (ho : ObRep (φ ++ [a]) hh a ob) (hp : ∀ xs, ob = .L xs → ∃ its, hh.PlainList a its) : Rep hb φ₀ (φ ++ [a]) (h ++ [ob]) hh where
  stays := R.stays
  nodup := fun i j b h5 hi hj => by
    have at_ : ∀ k : Nat, (φ ++ [a])[k]? = some b → (φ[k]? = some b) ∨ (k = φ.length ∧ b = a) := by
      intro k hk
      by_cases hl : k < φ.length
      · rw [List.getElem?_append_left hl] at hk; exact .inl hk
      · rw [List.getElem?_append_right (Nat.not_lt.mp hl)] at hk
        have h0 : k - φ.length = 0 := by
          have := (List.getElem?_eq_some_iff.mp hk).1
          simp at this; omega
        rw [h0] at hk
        simp at hk
        exact .inr ⟨by omega, hk.symm⟩
    rcases at_ i hi with h1 | ⟨h1, e1⟩ <;> rcases at_ j hj with h2 | ⟨h2, e2⟩
    · exact R.nodup i j b h5 h1 h2
    · subst e2; exact absurd (List.mem_of_getElem? h1) ha
    · subst e1; exact absurd (List.mem_of_getElem? h2) ha
    · rw [h1, h2]
  len := by simp [R.len]
  five := by rw [List.length_append]; exact Nat.le_trans R.five (Nat.le_add_right _ _)
  obj := fun i ob' e => by
    by_cases hi : i < h.length
    · rw [List.getElem?_append_left hi] at e
      obtain ⟨a', ha', r⟩ := R.obj i ob' e
      exact ⟨a', by rw [List.getElem?_append_left (by rw [R.len]; exact hi)]; exact ha', r.grow⟩
    · rw [List.getElem?_append_right (Nat.not_lt.mp hi)] at e
      have : i - h.length = 0 := by
        have := (List.getElem?_eq_some_iff.mp e).1
        simp at this; omega
      rw [this] at e; simp at e; subst e
      refine ⟨a, ?_, ho⟩
      rw [List.getElem?_append_right (by rw [R.len]; exact Nat.not_lt.mp hi), R.len, this]; rfl
  plain := fun i xs a' h5 e ha' => by
    by_cases hi : i < h.length
    · rw [List.getElem?_append_left hi] at e
      rw [List.getElem?_append_left (by rw [R.len]; exact hi)] at ha'
      exact R.plain i xs a' h5 e ha'
    · have e0 : i - h.length = 0 := by
        have := (List.getElem?_eq_some_iff.mp e).1
        simp at this; omega
      rw [List.getElem?_append_right (Nat.not_lt.mp hi), e0] at e
      rw [List.getElem?_append_right (by rw [R.len]; exact Nat.not_lt.mp hi), R.len, e0] at ha'
      simp at e ha'; subst ha'; exact hp xs e
  new := fun a' hm => by
    rw [List.drop_append_of_le_length R.five] at hm
    rcases List.mem_append.mp hm with hm | hm
    · exact R.new a' hm
    · rw [List.mem_singleton] at hm; subst hm; exact hbn
  pre := by obtain ⟨t, e⟩ := R.pre; exact ⟨t ++ [a], by rw [e, List.append_assoc]⟩

/-- a new object at a fresh address -/
theorem Rep.push {hb : Heap} {φ₀ φ : List Addr} {h : Hp} {hh hh' : Heap} (R : Rep hb φ₀ φ h hh) {a : Addr} {ob : Ob} (ha : hh.get? a = none) (k : ∀ b o, hh.get? b = some o → hh'.get? b = some o)
    (ho : ObRep (φ ++ [a]) hh' a ob) (hp : ∀ xs, ob = .L xs → ∃ its, hh'.PlainList a its) : Rep hb φ₀ (φ ++ [a]) (h ++ [ob]) hh' :=
  (R.keeps k).adopt (fun hm => by obtain ⟨o, e⟩ := R.live hm; rw [ha] at e; cases e) (R.fresh ha) ho hp

/-- one list of the abstract heap is stored into -/
theorem Rep.set {hb : Heap} {φ₀ φ : List Addr} {h : Hp} {hh hh' : Heap} (R : Rep hb φ₀ φ h hh) {i : Nat} {a : Addr} {xs : List V} {ws : List Value} (h5 : ro ≤ i) (hi : i < h.length) (ha : φ[i]? = some a)
    (k : ∀ b o, b ≠ a → hh.get? b = some o → hh'.get? b = some o) (hx : xs.length ≤ big) (hr : RVs φ xs ws) (hp : hh'.PlainList a ws.toArray) : Rep hb φ₀ φ (h.set i (.L xs)) hh' where
  stays := fun b o e => k b o (by
    rintro rfl
    have hm : b ∈ φ.drop ro := by
      refine List.mem_of_getElem? (i := i - ro) ?_
      rw [List.getElem?_drop, show ro + (i - ro) = i by omega]; exact ha
    rw [R.new b hm] at e; cases e) (R.stays b o e)
  nodup := R.nodup
  len := by simp [R.len]
  five := R.five
  obj := fun j ob e => by
    by_cases hj : i = j
    · subst hj
      rw [List.getElem?_set_self hi] at e; cases e
      obtain ⟨n, hn⟩ := hp
      exact ⟨a, ha, ws, hx, hr, _, hn, rfl, n, rfl⟩
    · rw [List.getElem?_set_ne hj] at e
      obtain ⟨a', ha', r⟩ := R.obj j ob e
      refine ⟨a', ha', r.at fun o ho => k a' o ?_ ho⟩
      rintro rfl
      exact hj (R.nodup _ _ _ h5 ha ha')
  plain := fun j xs' a' hj5 e ha' => by
    by_cases hj : i = j
    · subst hj
      rw [ha] at ha'; cases ha'
      exact ⟨_, hp⟩
    · rw [List.getElem?_set_ne hj] at e
      obtain ⟨its, n, r⟩ := R.plain j xs' a' hj5 e ha'
      refine ⟨its, n, k a' _ ?_ r⟩
      rintro rfl
      exact hj (R.nodup _ _ _ h5 ha ha')
  new := R.new
  pre := R.pre

/-! ## frames -/
noncomputable def own (env : Env) : List Addr := env.locals :: env.cells.map (·.2)

structure EnvOK (hb : Heap) (cx : Cx) (env : Env) (φ : List Addr) (lo : Lo) (hh : Heap) : Prop where
  kind : env.scope.kind = .function
  glb : env.globals = mainGlobals
  blt : env.builtins = builtinsNs
  gl : cx.gl = gls
  nglob : ∀ x, cx.names.lookup x = some .globalImplicit → env.kindOf x = some .globalImplicit
  nloc : ∀ x, cx.names.lookup x = some .local → env.kindOf x = some .local
  ncel : ∀ x, cx.names.lookup x = some .cell → env.kindOf x = some .cell
  nfre : ∀ x, cx.names.lookup x = some .free → env.kindOf x = some .cell ∨ env.kindOf x = some .free
  nobug : ∀ x, (cx.names.lookup x).isSome = true → (x == ("__debug__" : Str)) = false ∧ (x == ("__classdict__" : Str)) = false
  ns : ∃ m, hh.Ns env.locals m ∧ ∀ x s v, cx.names.lookup x = some .local → cx.vars.lookup x = some s → lo s = some v → ∃ w, m x = some w ∧ RV φ v w
  cel : ∀ x s, (cx.names.lookup x = some .cell ∨ cx.names.lookup x = some .free) → cx.vars.lookup x = some s →
    ∃ c o, env.cells.lookup x = some c ∧ hh.IsCell c o ∧ ∀ v, lo s = some v → ∃ w, o = some w ∧ RV φ v w
  inj : ∀ x y s, cx.vars.lookup x = some s → cx.vars.lookup y = some s → x = y
  apart : ∀ a ∈ own env, a ∉ φ
  live : ∀ a ∈ own env, ∃ o, hh.get? a = some o
  ncl : ∀ x c, env.cells.lookup x = some c → c ≠ env.locals
  cinj : ∀ x y c, env.cells.lookup x = some c → env.cells.lookup y = some c → x = y
  base : ∀ a ∈ own env, hb.get? a = none
  fresh : ∀ k, 100 * (cx.lvl + 1) ≤ k → lo k = none
  lt : ∀ x s, cx.vars.lookup x = some s → s < 100 * (cx.lvl + 1)

theorem RV.step {φ φ' own' : List Addr} {s s' : Shared} {v : V} {w : Value} (h : RV φ v w) (x : Step φ own' s s' φ') : RV φ' v w := by
  obtain ⟨ψ, rfl, _⟩ := x.pre; exact h.grow
theorem RVs.step {φ φ' own' : List Addr} {s s' : Shared} {v : List V} {w : List Value} (h : RVs φ v w) (x : Step φ own' s s' φ') : RVs φ' v w := by
  obtain ⟨ψ, rfl, _⟩ := x.pre; exact h.grow

theorem EnvOK.step {hb : Heap} {cx : Cx} {env : Env} {φ φ' own' : List Addr} {lo : Lo} {s s' : Shared} (X : EnvOK hb cx env φ lo s.heap) (x : Step φ own' s s' φ') (hd : ∀ a ∈ own', a ∉ own env) :
    EnvOK hb cx env φ' lo s'.heap := by
  have kp : ∀ a ∈ own env, ∀ o, s.heap.get? a = some o → s'.heap.get? a = some o := fun a ha o e =>
    x.frame a o (fun hm => X.apart a ha (List.mem_of_mem_drop hm)) (fun hm => hd a hm ha) e
  refine { X with ns := ?_, cel := ?_, apart := ?_, live := ?_ }
  · obtain ⟨m, ⟨o, es, ep, ho, r⟩, hm⟩ := X.ns
    refine ⟨m, ⟨o, es, ep, kp _ (List.mem_cons_self ..) _ ho, r⟩, fun y sl v hy hs hv => ?_⟩
    obtain ⟨w, e, r⟩ := hm y sl v hy hs hv
    exact ⟨w, e, r.step x⟩
  · intro y sl hy hs
    obtain ⟨c, o, hc, ⟨ob, ho, hd⟩, hv⟩ := X.cel y sl hy hs
    refine ⟨c, o, hc, ⟨ob, kp c (List.mem_cons_of_mem _ (List.mem_map.mpr ⟨(y, c), mem_of_lookup hc, rfl⟩)) _ ho, hd⟩, fun v e => ?_⟩
    obtain ⟨w, e, r⟩ := hv v e
    exact ⟨w, e, r.step x⟩
  · intro a ha hm
    obtain ⟨ψ, rfl, hψ⟩ := x.pre
    rcases List.mem_append.mp hm with h | h
    · exact X.apart a ha h
    · obtain ⟨o, ho⟩ := X.live a ha
      rw [hψ a h] at ho; cases ho
  · intro a ha
    obtain ⟨o, ho⟩ := X.live a ha
    exact ⟨o, kp a ha o ho⟩

theorem Step.drop_own {φ φ' own' : List Addr} {s s' : Shared} (x : Step φ own' s s' φ') (h : ∀ a ∈ own', s.heap.get? a = none) : Step φ [] s s' φ' :=
  ⟨x.same, x.pre, fun b o hb _ e => x.frame b o hb (fun hm => by rw [h b hm] at e; cases e) e, x.live⟩
theorem Step.drop_some {φ φ' own₁ own₂ : List Addr} {s s' : Shared} (x : Step φ own₁ s s' φ') (h : ∀ a ∈ own₁, a ∈ own₂ ∨ s.heap.get? a = none) : Step φ own₂ s s' φ' :=
  ⟨x.same, x.pre, fun b o hb ho e => x.frame b o hb (fun hm => by
    rcases h b hm with h1 | h1
    · exact ho h1
    · rw [h1] at e; cases e) e, x.live⟩

theorem Step.touch {hb : Heap} {φ₀ φ φ₁ T : List Addr} {h : Hp} {s₀ s₁ : Shared} {hh : Heap} {tk : Nat} (x : Step φ [] s₀ s₁ φ₁) (k : ∀ b o, b ∉ T → s₁.heap.get? b = some o → hh.get? b = some o)
    (hT : ∀ a ∈ T, s₀.heap.get? a = none) (R : Rep hb φ₀ φ₁ h hh) : Step φ [] s₀ { s₁ with heap := hh, toks := tk } φ₁ := by
  have fr : ∀ b o, b ∉ φ.drop ro → b ∉ ([] : List Addr) → s₀.heap.get? b = some o → hh.get? b = some o := fun b o hb ho e =>
    k b o (fun hm => by rw [hT b hm] at e; cases e) (x.frame b o hb ho e)
  obtain ⟨⟨hh', tk', rfl⟩, ⟨ψ, rfl, hψ⟩, _, _⟩ := x
  refine ⟨⟨_, _, rfl⟩, ⟨ψ, rfl, hψ⟩, fr, fun b o e => ?_⟩
  by_cases hb : b ∈ φ.drop ro
  · exact R.live (List.mem_append_left _ (List.mem_of_mem_drop hb))
  · exact ⟨o, fr b o hb (by simp) e⟩
theorem EnvOK.keepOwn {hb : Heap} {cx : Cx} {env : Env} {φ : List Addr} {lo : Lo} {hh hh' : Heap} (X : EnvOK hb cx env φ lo hh) (k : ∀ a ∈ own env, ∀ o, hh.get? a = some o → hh'.get? a = some o) : EnvOK hb cx env φ lo hh' :=
  { X with
    ns := by
      obtain ⟨m, ⟨o, es, ep, ho, r⟩, hm⟩ := X.ns
      exact ⟨m, ⟨o, es, ep, k _ (List.mem_cons_self ..) o ho, r⟩, hm⟩
    cel := fun x s a b => by
      obtain ⟨c, o, h1, ⟨ob, ho, hd⟩, h3⟩ := X.cel x s a b
      exact ⟨c, o, h1, ⟨ob, k c (List.mem_cons_of_mem _ (List.mem_map.mpr ⟨(x, c), mem_of_lookup h1, rfl⟩)) ob ho, hd⟩, h3⟩
    live := fun a ha => by
      obtain ⟨o, e⟩ := X.live a ha
      exact ⟨o, k a ha o e⟩ }

theorem EnvOK.weaken {hb : Heap} {cx : Cx} {env : Env} {φ : List Addr} {lo lo' : Lo} {hh : Heap} (X : EnvOK hb cx env φ lo hh) (h : ∀ k v, lo' k = some v → lo k = some v) : EnvOK hb cx env φ lo' hh :=
  { X with
    ns := by
      obtain ⟨m, hn, hm⟩ := X.ns
      exact ⟨m, hn, fun x s v a b c => hm x s v a b (h s v c)⟩
    cel := fun x s a b => by
      obtain ⟨c, o, h1, h2, h3⟩ := X.cel x s a b
      exact ⟨c, o, h1, h2, fun v e => h3 v (h s v e)⟩
    fresh := fun k hk => by
      cases e : lo' k with
      | none => rfl
      | some v => have := h k v e; rw [X.fresh k hk] at this; cases this }

/-! ## what the world gives -/
structure Stat (hb : Heap) (φ₀ : List Addr) : Prop where
  mg : ∃ mg, hb.Ns mainGlobals mg ∧ (∀ x v, gls.lookup x = some v → ∃ w, mg x = some w ∧ RV φ₀ v w) ∧
    (∀ x ∈ [nLen, nRange, nMin, nAbs, nInt, nSum, nEnum], mg x = none)
  mb : ∃ mb, hb.Ns builtinsNs mb ∧ mb nLen = some (.builtin "len") ∧ mb nRange = some (.type "range") ∧ mb nMin = some (.builtin "min") ∧ mb nAbs = some (.builtin "abs") ∧
    mb nInt = some (.type "int") ∧ mb nSum = some (.builtin "sum") ∧ mb nEnum = some (.type "enumerate")
  nolimit : hb.NoLimit
  fns : ∀ f ∈ fnAddrs, ∃ o fd, hb.get? f = some o ∧ o.data = .func fd

noncomputable def AOk (d : Nat) (A : Around) : Prop := A.handled = none ∧ A.depth + d < recursionLimit ∧ A.units + 4 * d + 80 < cLine

noncomputable def PostE (hb : Heap) (φ₀ φ : List Addr) (s : Shared) (Q : KV) : Value → Shared → Prop := fun v s' =>
  ∃ φ' av h', Step φ [] s s' φ' ∧ Rep hb φ₀ φ' h' s'.heap ∧ RV φ' av v ∧ Q av h'
noncomputable def NoE : Value → Shared → Prop := fun _ _ => False

theorem PostE.trans {hb : Heap} {φ₀ φ φ₁ : List Addr} {h : Hp} {s s₁ s₂ : Shared} {Q : KV} {v : Value} (R : Rep hb φ₀ φ h s.heap) (x : Step φ [] s s₁ φ₁) (p : PostE hb φ₀ φ₁ s₁ Q v s₂) : PostE hb φ₀ φ s Q v s₂ := by
  obtain ⟨φ', av, h', st, r, rv, q⟩ := p
  exact ⟨φ', av, h', x.trans st R.five, r, rv, q⟩

noncomputable def SE (prog : Program) (w : World) (hb : Heap) (φ₀ : List Addr) (C : Orc) (d : Nat) (cx : Cx) (e : PySem.Expr) (ir : E) : Prop :=
  ∀ (A : Around) (env : Env) (φ : List Addr) (lo : Lo) (h : Hp) (s : Shared) (Q : KV), AOk d A → EnvOK hb cx env φ lo s.heap → Rep hb φ₀ φ h s.heap → wpE C ir lo h Q →
    wpAny (model prog w) A (eval e env) (PostE hb φ₀ φ s Q) NoE s

noncomputable def SC (prog : Program) (w : World) (hb : Heap) (φ₀ : List Addr) (C : Orc) (d : Nat) : Prop :=
  ∀ (A : Around) (f : Nat) (vs : List V) (args : List Value) (φ : List Addr) (h : Hp) (s : Shared) (Q : KV), AOk d A → Rep hb φ₀ φ h s.heap → RVs φ vs args → C f vs h Q →
    wpAny (model prog w) A (call (.ref f) args) (PostE hb φ₀ φ s Q) NoE s

theorem noE {prog : Program} {w : World} {α : Type} {A : Around} {t : Sem α} {Q : α → Shared → Prop} {E : Value → Shared → Prop} {s : Shared} (h : wpAny (model prog w) A t Q NoE s) : wpAny (model prog w) A t Q E s :=
  wpAny_mono h (fun _ _ x => x) fun _ _ x => x.elim

/-! ## views -/
theorem nn {α : Type} {r : α} {P : Prop} (h : (none : Option α) = some r) : P := nomatch h
theorem ff {P : Prop} (h : false = true) : P := nomatch h
theorem bnd {α β : Type} {x : Option α} {f : α → Option β} {r : β} (h : (x >>= f) = some r) : ∃ a, x = some a ∧ f a = some r := by
  cases x with
  | none => exact nn h
  | some a => exact ⟨a, rfl, h⟩
theorem bnd0 {α β : Type} {x : Option α} {f : α → β} {r : β} (h : x.map f = some r) : ∃ a, x = some a ∧ f a = r := by
  cases x with
  | none => exact nn h
  | some a => exact ⟨a, rfl, Option.some.inj h⟩
theorem ift {α : Type} {c : Prop} [Decidable c] {x : Option α} {r : α} (h : (if c then x else none) = some r) : c ∧ x = some r := by
  by_cases hc : c
  · exact ⟨hc, (if_pos hc).symm.trans h⟩
  · exact nn ((if_neg hc).symm.trans h)
theorem and2 {a b : Bool} (h : (a && b) = true) : a = true ∧ b = true := by
  cases a with
  | true => exact ⟨rfl, h⟩
  | false => exact ff h
theorem one_some {α : Type} {l : List α} {a : α} (h : one l = some a) : l = [a] := by
  match l, h with
  | [_], h => cases h; rfl
theorem two_some {α : Type} {l : List α} {q : α × α} (h : two l = some q) : l = [q.1, q.2] := by
  match l, h with
  | [_, _], h => cases h; rfl
theorem nil_of {α : Type} {l : List α} (h : l.isEmpty = true) : l = [] := by
  cases l with
  | nil => rfl
  | cons _ _ => exact ff h
theorem asName_some {e : PySem.Expr} {n : Str} (h : asName e = some n) : ∃ p, e = .Name n p := by
  cases e <;> first | exact nn h | exact ⟨_, by cases h; rfl⟩
theorem asAttr_some {e o : PySem.Expr} {n : Str} {p : Pos} (h : asAttr e = some (o, n, p)) : e = .Attribute o n p := by
  cases e <;> first | exact nn h | (cases h; rfl)
theorem asCall_some {e : PySem.Expr} {q : PySem.Expr × List PySem.Expr × Pos} (h : asCall e = some q) : e = .Call q.1 q.2.1 [] q.2.2 := by
  cases e <;> first | exact nn h | (obtain ⟨hk, h⟩ := ift h; cases nil_of hk; cases h; rfl)
theorem asTuple_some {e : PySem.Expr} {es : List PySem.Expr} (h : asTuple e = some es) : ∃ k p, e = .Tuple es k p := by
  cases e <;> first | exact nn h | exact ⟨_, _, by cases h; rfl⟩
theorem asSlice_some {e : PySem.Expr} {a b c : Option PySem.Expr} (h : asSlice e = some (a, b, c)) : ∃ p, e = .Slice a b c p := by
  cases e <;> first | exact nn h | exact ⟨_, by cases h; rfl⟩
theorem asNeg_some {e a : PySem.Expr} (h : asNeg e = some a) : ∃ p, e = .UnaryOp .USub a p := by
  cases e <;> first | exact nn h | (rename_i op _ _; cases op <;> first | exact nn h | exact ⟨_, by cases h; rfl⟩)
theorem asInt_some {e : PySem.Expr} {i : Int} (h : asInt e = some i) : ∃ k p, e = .Constant (.int i) k p := by
  cases e <;> first | exact nn h | (rename_i c _ _; cases c <;> first | exact nn h | exact ⟨_, _, by cases h; rfl⟩)
theorem isM1_some {e : PySem.Expr} (h : isM1 e = true) : ∃ k p q, e = .UnaryOp .USub (.Constant (.int 1) k p) q := by
  have h := eq_of_beq h
  obtain ⟨a, h1, h2⟩ := bnd (x := asNeg e) h
  obtain ⟨q, rfl⟩ := asNeg_some h1
  obtain ⟨k, p, rfl⟩ := asInt_some h2
  exact ⟨k, p, q, rfl⟩
theorem asRange_some {cx : Cx} {e : PySem.Expr} {as : List PySem.Expr} (h : asRange cx e = some as) : ∃ n p q, e = .Call (.Name n p) as [] q ∧ isBuiltin cx n nRange = true := by
  obtain ⟨c, h1, h⟩ := bnd h
  obtain ⟨n, h2, h⟩ := bnd h
  obtain ⟨h3, h⟩ := ift h
  obtain ⟨p, h4⟩ := asName_some h2
  cases h
  exact ⟨n, p, _, by rw [asCall_some h1, h4], h3⟩
theorem asEnum_some {cx : Cx} {e a : PySem.Expr} (h : asEnum cx e = some a) : ∃ n p q, e = .Call (.Name n p) [a] [] q ∧ isBuiltin cx n nEnum = true := by
  obtain ⟨c, h1, h⟩ := bnd h
  obtain ⟨n, h2, h⟩ := bnd h
  obtain ⟨h3, h⟩ := ift h
  obtain ⟨p, h4⟩ := asName_some h2
  exact ⟨n, p, _, by rw [asCall_some h1, h4, one_some h], h3⟩
theorem cName_some {cx : Cx} {n : Str} {e : E} (h : cName cx n = some e) :
    (∃ k s, cx.names.lookup n = some k ∧ (k = .local ∨ k = .cell ∨ k = .free) ∧ cx.vars.lookup n = some s ∧ e = .x s) ∨ (cx.names.lookup n = some .globalImplicit ∧ ∃ v, cx.gl.lookup n = some v ∧ e = .g v) := by
  obtain ⟨k, h1, h⟩ := bnd h
  have var : (k = .local ∨ k = .cell ∨ k = .free) → (cx.vars.lookup n).map E.x = some e → (∃ k s, cx.names.lookup n = some k ∧ (k = .local ∨ k = .cell ∨ k = .free) ∧ cx.vars.lookup n = some s ∧ e = .x s) := fun hk h => by
    obtain ⟨s, h2, h3⟩ := bnd0 h
    exact ⟨k, s, h1, hk, h2, h3.symm⟩
  cases k
  case «local» => exact .inl (var (.inl rfl) h)
  case cell => exact .inl (var (.inr (.inl rfl)) h)
  case free => exact .inl (var (.inr (.inr rfl)) h)
  case globalImplicit =>
    obtain ⟨v, h2, h3⟩ := bnd0 (x := cx.gl.lookup n) h
    exact .inr ⟨h1, v, h2, h3.symm⟩
  case globalExplicit => exact nn h
theorem cSlot_some {cx : Cx} {n : Str} {s : Nat} (h : cSlot cx n = some s) : (cx.names.lookup n = some .local ∨ cx.names.lookup n = some .cell) ∧ cx.vars.lookup n = some s := by
  obtain ⟨k, h1, h⟩ := bnd h
  obtain ⟨h2, h⟩ := ift h
  refine ⟨?_, h⟩
  cases k
  case «local» => exact .inl h1
  case cell => exact .inr h1
  all_goals exact ff h2
theorem upd_eq {lo : Lo} {s : Nat} {v : V} {y : Nat} (h : y = s) : upd lo s v y = some v := by
  subst h
  show cond (y == y) _ _ = _
  rw [beq_self_eq_true]; rfl
theorem upd_ne {lo : Lo} {s : Nat} {v : V} {y : Nat} (h : y ≠ s) : upd lo s v y = lo y := by
  show cond (y == s) _ _ = _
  rw [beq_false_of_ne h]; rfl
theorem intP_some {v : V} {K : Int → Prop} (q : intP v K) : ∃ i, v = .int i ∧ K i := by
  cases v <;> first | exact q.elim | exact ⟨_, rfl, q⟩
theorem boolP_some {v : V} {K : Bool → Prop} (q : boolP v K) : ∃ i, v = .bool i ∧ K i := by
  cases v <;> first | exact q.elim | exact ⟨_, rfl, q⟩
theorem fnP_some {v : V} {K : Nat → Prop} (q : fnP v K) : ∃ i, v = .fn i ∧ K i := by
  cases v <;> first | exact q.elim | exact ⟨_, rfl, q⟩
theorem getP_of {α : Type} {o : Option α} {K : α → Prop} (q : getP o K) : ∃ v, o = some v ∧ K v := by
  cases o <;> first | exact q.elim | exact ⟨_, rfl, q⟩
theorem getL_of {o : Option Ob} {K : List V → Prop} (q : getL o K) : ∃ v, o = some (.L v) ∧ K v := by
  rcases o with _ | ⟨⟨_⟩ | ⟨_⟩⟩ <;> first | exact q.elim | exact ⟨_, rfl, q⟩
theorem getT_of {o : Option Ob} {K : List V → Prop} (q : getT o K) : ∃ v, o = some (.T v) ∧ K v := by
  rcases o with _ | ⟨⟨_⟩ | ⟨_⟩⟩ <;> first | exact q.elim | exact ⟨_, rfl, q⟩
theorem listP_some {v : V} {h : Hp} {K : List V → Prop} (q : listP v h K) : ∃ i xs, v = .ref i ∧ h[i]? = some (.L xs) ∧ K xs := by
  cases v with
  | ref i => obtain ⟨xs, e, q⟩ := getL_of q; exact ⟨i, xs, rfl, e, q⟩
  | _ => exact q.elim
theorem tupP_some {v : V} {h : Hp} {K : List V → Prop} (q : tupP v h K) : ∃ i xs, v = .ref i ∧ h[i]? = some (.T xs) ∧ K xs := by
  cases v with
  | ref i => obtain ⟨xs, e, q⟩ := getT_of q; exact ⟨i, xs, rfl, e, q⟩
  | _ => exact q.elim
theorem setP_some {o u v : V} {h : Hp} {K : Hp → Prop} (q : setP o u v h K) : ∃ a k xs, o = .ref a ∧ u = .int k ∧ h[a]? = some (.L xs) ∧ (ro ≤ a ∧ 0 ≤ k ∧ k < xs.length) ∧ K (h.set a (.L (xs.set k.toNat v))) := by
  cases o with
  | ref i =>
    obtain ⟨k, rfl, q⟩ := intP_some q
    obtain ⟨xs, e, q⟩ := getL_of q
    exact ⟨i, k, xs, rfl, rfl, e, q⟩
  | _ => exact q.elim
theorem appP_some {o v : V} {h : Hp} {K : Hp → Prop} (q : appP o v h K) : ∃ a xs, o = .ref a ∧ h[a]? = some (.L xs) ∧ (ro ≤ a ∧ xs.length < big) ∧ K (h.set a (.L (xs ++ [v]))) := by
  cases o with
  | ref i => obtain ⟨xs, e, q⟩ := getL_of q; exact ⟨i, xs, rfl, e, q⟩
  | _ => exact q.elim
theorem rv_int2 {φ : List Addr} {a b : V} {wa wb : Value} {K : Int → Int → Prop} (ha : RV φ a wa) (hb : RV φ b wb) (q : intP a fun x => intP b fun y => K x y) :
    ∃ x y t u, wa = .int x t ∧ wb = .int y u ∧ K x y := by
  obtain ⟨x, e1, q1⟩ := intP_some q
  obtain ⟨y, e2, q2⟩ := intP_some q1
  subst e1 e2
  obtain ⟨t, rfl⟩ := ha
  obtain ⟨u, rfl⟩ := hb
  exact ⟨x, y, t, u, rfl, rfl, q2⟩
theorem rv_bool2 {φ : List Addr} {a b : V} {wa wb : Value} {K : Bool → Bool → Prop} (ha : RV φ a wa) (hb : RV φ b wb) (q : boolP a fun x => boolP b fun y => K x y) :
    ∃ x y, wa = .bool x ∧ wb = .bool y ∧ K x y := by
  obtain ⟨x, e1, q1⟩ := boolP_some q
  obtain ⟨y, e2, q2⟩ := boolP_some q1
  subst e1 e2
  cases ha; cases hb
  exact ⟨x, y, rfl, rfl, q2⟩
theorem bopP_add_or {a b : V} {h : Hp} {Q : KV} (q : bopP .add a b h Q) : catP a b h Q ∨ intP a fun x => intP b fun y => Q (.int (x + y)) h := by
  cases a <;> first | exact .inr q | exact .inl q
theorem bopP_mul_or {a b : V} {h : Hp} {Q : KV} (q : bopP .mul a b h Q) : (intP b fun n => repP a n h Q) ∨ intP a fun x => intP b fun y => (x.natAbs < 2 ^ 63 ∧ y.natAbs < 2 ^ 63) ∧ Q (.int (x * y)) h := by
  cases a <;> first | exact .inr q | exact .inl q
theorem repP_some {v : V} {n : Int} {h : Hp} {Q : KV} (q : repP v n h Q) : ∃ i x, v = .ref i ∧ h[i]? = some (.L [x]) ∧ (ro ≤ i ∧ 0 ≤ n ∧ n ≤ big) ∧ Q (.ref h.length) (h ++ [.L (List.replicate n.toNat x)]) := by
  cases v with
  | ref i =>
    obtain ⟨xs, hi, q⟩ := getL_of q
    match xs, q with
    | [x], q => exact ⟨i, x, rfl, hi, q⟩
  | _ => exact q.elim
theorem ixO_of {o : Option Ob} {k : Int} {K : V → Prop} (q : ixO o k K) :
    (∃ xs v, o = some (.L xs) ∧ (-(xs.length : Int) ≤ k ∧ k < xs.length) ∧ xs[(if k < 0 then k + xs.length else k).toNat]? = some v ∧ K v) ∨
     (∃ xs v, o = some (.T xs) ∧ (0 ≤ k ∧ k < xs.length) ∧ xs[k.toNat]? = some v ∧ K v) := by
  rcases o with _ | ⟨⟨xs⟩ | ⟨xs⟩⟩
  · exact q.elim
  · obtain ⟨q1, q2⟩ := q
    obtain ⟨v, e, q⟩ := getP_of q2
    exact .inl ⟨xs, v, rfl, q1, e, q⟩
  · obtain ⟨q1, q2⟩ := q
    obtain ⟨v, e, q⟩ := getP_of q2
    exact .inr ⟨xs, v, rfl, q1, e, q⟩
theorem ixP_some {a b : V} {h : Hp} {K : V → Prop} (q : ixP a b h K) : ∃ i k, a = .ref i ∧ b = .int k ∧
    ((∃ xs v, h[i]? = some (.L xs) ∧ (-(xs.length : Int) ≤ k ∧ k < xs.length) ∧ xs[(if k < 0 then k + xs.length else k).toNat]? = some v ∧ K v) ∨
     (∃ xs v, h[i]? = some (.T xs) ∧ (0 ≤ k ∧ k < xs.length) ∧ xs[k.toNat]? = some v ∧ K v)) := by
  cases a with
  | ref i =>
    obtain ⟨k, rfl, q⟩ := intP_some q
    exact ⟨i, k, rfl, rfl, ixO_of q⟩
  | _ => exact q.elim
end Mine

set_option linter.unusedVariables false
set_option autoImplicit false
namespace Mine
open PySem PySem.Calls PyProof.Rows

section
variable {prog : Program} {w : World} {hb : Heap} {φ₀ φ : List Addr} {h : Hp} {s : Shared} {A : Around} {Q : KV} {C : Orc} {d : Nat} {cx : Cx}

/-! ## ends of one step -/
theorem RV.i {φ : List Addr} (x : Int) (t : Tok) : RV φ (.int x) (.int x t) := ⟨t, rfl⟩
theorem RV.b {φ : List Addr} (x : Bool) : RV φ (.bool x) (.bool x) := rfl
theorem Step.of_keeps {own : List Addr} (hh : Heap) (tk : Nat) (k : ∀ b o, s.heap.get? b = some o → hh.get? b = some o) : Step φ own s { s with heap := hh, toks := tk } φ :=
  ⟨⟨_, _, rfl⟩, ⟨[], by simp, by simp⟩, fun b o _ _ e => k b o e, fun b o e => ⟨o, k b o e⟩⟩

theorem post_keep (R : Rep hb φ₀ φ h s.heap) {v : V} {wv : Value} {hh : Heap} {tk : Nat} (k : ∀ b o, s.heap.get? b = some o → hh.get? b = some o) (hv : RV φ v wv) (q : Q v h) :
    PostE hb φ₀ φ s Q wv { s with heap := hh, toks := tk } :=
  ⟨φ, v, h, Step.of_keeps hh tk k, R.keeps k, hv, q⟩
theorem post_tok (R : Rep hb φ₀ φ h s.heap) {v : V} {wv : Value} {tk : Nat} (hv : RV φ v wv) (q : Q v h) :
    PostE hb φ₀ φ s Q wv { s with toks := tk } := post_keep (hh := s.heap) R (fun _ _ e => e) hv q
theorem post_same (R : Rep hb φ₀ φ h s.heap) {v : V} {wv : Value} (hv : RV φ v wv) (q : Q v h) : PostE hb φ₀ φ s Q wv s := post_tok (tk := s.toks) R hv q

theorem step_push {own : List Addr} {hh : Heap} {tk : Nat} {a : Addr} (ha : s.heap.get? a = none) (k : ∀ b o, s.heap.get? b = some o → hh.get? b = some o) :
    Step φ own s { s with heap := hh, toks := tk } (φ ++ [a]) :=
  ⟨⟨_, _, rfl⟩, ⟨[a], rfl, by simpa using ha⟩, fun b o _ _ e => k b o e, fun b o e => ⟨o, k b o e⟩⟩

theorem post_new (R : Rep hb φ₀ φ h s.heap) {ob : Ob} {hh : Heap} {tk : Nat} {a : Addr} (ha : s.heap.get? a = none) (k : ∀ b o, s.heap.get? b = some o → hh.get? b = some o)
    (ho : ObRep (φ ++ [a]) hh a ob) (hp : ∀ xs, ob = .L xs → ∃ its, hh.PlainList a its) (q : Q (.ref h.length) (h ++ [ob])) :
    PostE hb φ₀ φ s Q (.ref a) { s with heap := hh, toks := tk } :=
  ⟨φ ++ [a], .ref h.length, h ++ [ob], step_push ha k, R.push ha k ho hp, ⟨a, by rw [List.getElem?_append_right (by rw [R.len]; exact Nat.le_refl _), R.len, Nat.sub_self]; rfl, rfl⟩, q⟩

/-- a list pushed -/
theorem post_list (R : Rep hb φ₀ φ h s.heap) {xs : List V} {ws : List Value} {tk : Nat} (hl : xs.length ≤ big) (hr : RVs φ xs ws) (q : Q (.ref h.length) (h ++ [.L xs])) :
    PostE hb φ₀ φ s Q (.ref s.heap.objs.size) { s with heap := s.heap.push { cls := .type "list", data := .seq ws.toArray }, toks := tk } :=
  post_new (ob := .L xs) R (get_size _) (fun b o e => Heap.get?_push_of_some _ e) ⟨ws, hl, hr.grow, ⟨_, Heap.get?_push_size _ rfl, rfl, 0, rfl⟩⟩ (fun _ _ => ⟨_, 0, Heap.get?_push_size _ rfl⟩) q
theorem post_tup (R : Rep hb φ₀ φ h s.heap) {xs : List V} {ws : List Value} {tk : Nat} (hl : xs.length ≤ big) (hr : RVs φ xs ws) (q : Q (.ref h.length) (h ++ [.T xs])) :
    PostE hb φ₀ φ s Q (.ref s.heap.objs.size) { s with heap := s.heap.push { cls := .type "tuple", data := .seq ws.toArray }, toks := tk } :=
  post_new (ob := .T xs) R (get_size _) (fun b o e => Heap.get?_push_of_some _ e) ⟨ws, hl, hr.grow, ⟨_, Heap.get?_push_size _ rfl, rfl, 0, rfl⟩⟩ (by rintro _ ⟨⟩) q

/-! ## operators -/
theorem repeat_list (l : Addr) (items : Array Value) (k : Nat) (x : Int) (u : Tok) {Q' E' : Value → Shared → Prop}
    (hl : s.heap.get? l = some { cls := .type "list", dict := none, data := .seq items k, slots := #[] })
    (hlo : -(2 ^ 63 : Int) ≤ x) (hhi : x < 2 ^ 63) (hsz : items.size * x.toNat ≤ 2 ^ 24)
    (hq : Q' (.ref s.heap.objs.size) { s with heap := s.heap.push { cls := .type "list", data := .seq (List.foldl (fun x1 x2 => x1 ++ x2) #[] (List.replicate (if items.isEmpty = true then 0 else x.toNat) items)) } }) :
    wpAny (model prog w) A (binaryOp .Mult (.ref l) (.int x u)) Q' E' s :=
  wpAny_binaryOp_repeat_ref (T := "list") (U := "int") (by decide) ⟨_, hl, rfl⟩ (fun s' => typeIs_int s' x u) noFill_list_mul F.fills_int_mul F.slot_int_rmul PySem.repeat_list F.slot_int_index.lookup
    (call_meets F.slot_int_rmul (typeIs_int s x u) F.entry_int_rmul (F.args_int_rmul_2 _ _) (int___rmul___int_list x u l items k)
      ⟨hl, rfl, ⟨_, hl, rfl⟩, call_meets F.slot_list_mul ⟨_, hl, rfl⟩ F.entry_list_mul (F.args_list_mul_2 _ _)
        (AutoListH.list___mul___list_int_3 l items k x u (by simp [Builtin.List.listFitsIndex]; omega) (by omega) (by simp [Builtin.List.listTooLong, sizeLine]; omega))
        ⟨hl, hq⟩⟩)

theorem concat_lists {l b : Addr} {vs ws : List Value} {Q' E' : Value → Shared → Prop} (hl : s.heap.IsList l vs.toArray) (hb : s.heap.IsList b ws.toArray)
    (hsz : vs.length + ws.length ≤ sizeLine)
    (hq : Q' (.ref s.heap.objs.size) { s with heap := s.heap.push { cls := .type "list", data := .seq (vs ++ ws).toArray } }) :
    wpAny (model prog w) A (binaryOp .Add (.ref l) (.ref b)) Q' E' s := by
  obtain ⟨⟨cls, dd, data, sl⟩, ho, hc, n, hd⟩ := id hl
  obtain ⟨⟨cls2, dd2, data2, sl2⟩, ho2, hc2, n2, hd2⟩ := id hb
  simp only at hc hd hc2 hd2
  subst hc hd hc2 hd2
  have e : vs.toArray ++ ws.toArray = (vs ++ ws).toArray := by simp
  refine concat_meets ⟨_, ho, rfl⟩ ⟨_, ho2, rfl⟩ noFill_list_add seq_list_add PySem.F.slot_list_add PySem.F.entry_list_add (PySem.F.args_list_add_2 _ _) (list_addW l b vs.toArray ws.toArray n n2 dd dd2 sl sl2 (by simpa using hsz)) ⟨ho, ho2, ?_⟩
  rw [e]; exact hq

theorem foldl_replicate_one (v : Value) : ∀ (n : Nat) (acc : Array Value), List.foldl (fun x1 x2 => x1 ++ x2) acc (List.replicate n #[v]) = (acc.toList ++ List.replicate n v).toArray
  | 0, acc => by simp
  | n + 1, acc => by
    rw [List.replicate_succ, List.foldl_cons, foldl_replicate_one v n]
    simp [List.replicate_succ]

theorem rep_list (R : Rep hb φ₀ φ h s.heap) {v : V} {wv : Value} {K : List V → Prop} (hv : RV φ v wv) (q : listP v h K) :
    ∃ i a xs ws, v = .ref i ∧ wv = .ref a ∧ h[i]? = some (.L xs) ∧ φ[i]? = some a ∧ xs.length ≤ big ∧ RVs φ xs ws ∧ s.heap.IsList a ws.toArray ∧ K xs := by
  obtain ⟨i, xs, rfl, hi, q⟩ := listP_some q
  obtain ⟨a, ha, rfl⟩ := hv
  obtain ⟨a', ha', ws, hl, hr, hL⟩ := R.obj _ _ hi
  rw [ha] at ha'; cases ha'
  exact ⟨i, a, xs, ws, rfl, rfl, hi, ha, hl, hr, hL, q⟩

theorem cat_sound {a b : V} {wa wb : Value} (R : Rep hb φ₀ φ h s.heap) (ha : RV φ a wa) (hb' : RV φ b wb) (q : catP a b h Q) :
    wpAny (model prog w) A (binaryOp .Add wa wb) (PostE hb φ₀ φ s Q) NoE s := by
  obtain ⟨_, _, _, _, rfl, rfl, _, _, _, hr1, hi1, q⟩ := rep_list R ha q
  obtain ⟨_, _, _, _, rfl, rfl, _, _, _, hr2, hi2, q⟩ := rep_list R hb' q
  have hs := q.1
  refine concat_lists hi1 hi2 (by rw [← hr1.len, ← hr2.len]; exact hs) ?_
  exact post_list (tk := s.toks) R (by rw [List.length_append]; exact hs) (hr1.append hr2) q.2
theorem rep_sound {a b : V} {wa wb : Value} (R : Rep hb φ₀ φ h s.heap) (ha : RV φ a wa) (hb' : RV φ b wb) (q : intP b fun n => repP a n h Q) :
    wpAny (model prog w) A (binaryOp .Mult wa wb) (PostE hb φ₀ φ s Q) NoE s := by
  obtain ⟨n, rfl, q⟩ := intP_some q
  obtain ⟨i, x, rfl, hi, hs, q⟩ := repP_some q
  obtain ⟨la, hla, rfl⟩ := ha
  obtain ⟨u, rfl⟩ := hb'
  obtain ⟨a1, h1, ws1, hl1, hr1, hi1⟩ := R.obj _ _ hi
  rw [hla] at h1; cases h1
  obtain ⟨its, n', hp⟩ := R.plain _ _ _ hs.1 hi hla
  obtain ⟨o1, ho1, hc1, n1, hd1⟩ := hi1
  rw [hp] at ho1; cases ho1
  cases hd1
  cases hr1 with
  | cons hv hr1 =>
    cases hr1
    rename_i wv
    have hbig : big = 16777216 := rfl
    refine repeat_list la _ _ _ _ hp (Int.le_trans (by decide) hs.2.1) (by omega) (show 1 * n.toNat ≤ 2 ^ 24 by omega) ?_
    have e : List.foldl (fun x1 x2 => x1 ++ x2) #[] (List.replicate (if ([wv].toArray).isEmpty = true then 0 else n.toNat) [wv].toArray) = (List.replicate n.toNat wv).toArray :=
      foldl_replicate_one wv n.toNat #[]
    rw [e]
    exact post_list (tk := s.toks) R (by rw [List.length_replicate]; omega) (RVs.replicate hv _) q

theorem bop_sound (op : Bop) (o : Operator) (ho : bopOf o = some op) {a b : V} {wa wb : Value} (R : Rep hb φ₀ φ h s.heap) (ha : RV φ a wa) (hb' : RV φ b wb) (q : bopP op a b h Q) :
    wpAny (model prog w) A (binaryOp o wa wb) (PostE hb φ₀ φ s Q) NoE s := by
  cases o <;> first | exact nn ho | cases ho
  · rcases bopP_add_or q with q | q
    · exact cat_sound R ha hb' q
    · obtain ⟨x, y, t, u, rfl, rfl, q⟩ := rv_int2 ha hb' q
      exact PyProof.Rows.add_int (post_tok R (RV.i _ _) q)
  · obtain ⟨x, y, t, u, rfl, rfl, q⟩ := rv_int2 ha hb' q
    exact PyProof.Rows.sub_int (post_tok R (RV.i _ _) q)
  · rcases bopP_mul_or q with q | q
    · exact rep_sound R ha hb' q
    · obtain ⟨x, y, t, u, rfl, rfl, q⟩ := rv_int2 ha hb' q
      exact PyProof.Rows.mul_int (post_tok R (RV.i _ _) q.2) (by have := q.1; exact .of_left (intBits_le (by omega)))
  · obtain ⟨x, y, t, u, rfl, rfl, q⟩ := rv_int2 ha hb' q
    exact PyProof.Rows.mod_int' q.1 (post_tok R (RV.i _ _) q.2)
  · obtain ⟨x, y, t, u, rfl, rfl, q⟩ := rv_int2 ha hb' q
    exact PyProof.Rows.pow_int_small q.1.1 (by have := q.1.2.1; omega) q.1.2.2 (post_tok R (RV.i _ _) q.2)
  · obtain ⟨x, y, t, u, rfl, rfl, q⟩ := rv_int2 ha hb' q
    exact PyProof.Rows.lshift_int_small q.1.1 (by have := q.1.2.1; omega) q.1.2.2 (post_tok R (RV.i _ _) q.2)
  · obtain ⟨x, y, t, u, rfl, rfl, q⟩ := rv_int2 ha hb' q
    exact PyProof.Rows.rshift_int q.1 (post_tok R (RV.i _ _) q.2)
  · obtain ⟨x, y, t, u, rfl, rfl, q⟩ := rv_int2 ha hb' q
    exact PyProof.Rows.or_int (post_tok R (RV.i _ _) q)
  · obtain ⟨x, y, t, u, rfl, rfl, q⟩ := rv_int2 ha hb' q
    exact PyProof.Rows.and_int (post_tok R (RV.i _ _) q)
  · obtain ⟨x, y, t, u, rfl, rfl, q⟩ := rv_int2 ha hb' q
    exact PyProof.Rows.floordiv_int q.1.1 (post_tok R (RV.i _ _) q.2) (.inl (PyProof.noPylong_small (by have := q.1.2; omega)))

theorem iop_sound (op : Bop) (o : Operator) (ho : bopOf o = some op) {a b : V} {wa wb : Value} (R : Rep hb φ₀ φ h s.heap) (hi : ∃ i, a = .int i) (ha : RV φ a wa) (hb' : RV φ b wb) (q : bopP op a b h Q) :
    wpAny (model prog w) A (inplaceOp o wa wb) (PostE hb φ₀ φ s Q) NoE s := by
  cases o <;> first | exact nn ho | cases ho
  · rcases bopP_add_or q with q | q
    · obtain ⟨i, rfl⟩ := hi; exact q.elim
    · obtain ⟨x, y, t, u, rfl, rfl, q⟩ := rv_int2 ha hb' q
      exact PyProof.Rows.iadd_int (post_tok R (RV.i _ _) q)
  · obtain ⟨x, y, t, u, rfl, rfl, q⟩ := rv_int2 ha hb' q
    exact PyProof.Rows.isub_int (post_tok R (RV.i _ _) q)
  · rcases bopP_mul_or q with q | q
    · obtain ⟨i, rfl⟩ := hi; obtain ⟨_, _, q⟩ := intP_some q; exact q.elim
    · obtain ⟨x, y, t, u, rfl, rfl, q⟩ := rv_int2 ha hb' q
      exact PyProof.Rows.imul_int (post_tok R (RV.i _ _) q.2) (by have := q.1; exact .of_left (intBits_le (by omega)))
  · obtain ⟨x, y, t, u, rfl, rfl, q⟩ := rv_int2 ha hb' q
    exact PyProof.Rows.imod_int q.1 (post_tok R (RV.i _ _) q.2)
  · obtain ⟨x, y, t, u, rfl, rfl, q⟩ := rv_int2 ha hb' q
    exact PyProof.Rows.ipow_int_small q.1.1 (by have := q.1.2.1; omega) q.1.2.2 (post_tok R (RV.i _ _) q.2)
  · obtain ⟨x, y, t, u, rfl, rfl, q⟩ := rv_int2 ha hb' q
    exact PyProof.Rows.ilshift_int_small q.1.1 (by have := q.1.2.1; omega) q.1.2.2 (post_tok R (RV.i _ _) q.2)
  · obtain ⟨x, y, t, u, rfl, rfl, q⟩ := rv_int2 ha hb' q
    exact PyProof.Rows.irshift_int q.1 (post_tok R (RV.i _ _) q.2)
  · obtain ⟨x, y, t, u, rfl, rfl, q⟩ := rv_int2 ha hb' q
    exact PyProof.Rows.ior_int (post_tok R (RV.i _ _) q)
  · obtain ⟨x, y, t, u, rfl, rfl, q⟩ := rv_int2 ha hb' q
    exact PyProof.Rows.iand_int (post_tok R (RV.i _ _) q)
  · obtain ⟨x, y, t, u, rfl, rfl, q⟩ := rv_int2 ha hb' q
    exact PyProof.Rows.ifloordiv_int q.1.1 (post_tok R (RV.i _ _) q.2) (.inl (PyProof.noPylong_small (by have := q.1.2; omega)))

/-! ## subscripts -/
theorem ix_sound (value slice : PySem.Expr) {a b : V} {wa wb : Value} {K : V → Prop} {E' : Value → Shared → Prop} (R : Rep hb φ₀ φ h s.heap) (ha : RV φ a wa) (hb' : RV φ b wb) (q : ixP a b h K)
    (hs : subscripted slice false wa wb = operate [wa, wb] (getItem wa wb)) :
    wpAny (model prog w) A (subscriptTail value slice wa wb) (fun r s' => s' = s ∧ ∃ v, RV φ v r ∧ K v) E' s := by
  obtain ⟨i, k, e1, e2, q'⟩ := ixP_some q
  subst e1 e2
  obtain ⟨l, hl, rfl⟩ := ha
  obtain ⟨t, rfl⟩ := hb'
  have hbig : big = 16777216 := rfl
  rcases q' with ⟨xs, v, hi, ⟨q1, q2⟩, hv, q3⟩ | ⟨xs, v, hi, ⟨q1, q2⟩, hv, q3⟩
  · obtain ⟨a', ha', ws, hx, hr, hL⟩ := R.obj _ _ hi
    rw [hl] at ha'; cases ha'
    obtain ⟨wv, hwv, rv⟩ := hr.get _ _ hv
    have hlen := hr.len
    by_cases hk : k < 0
    · rw [if_pos hk, hlen] at hwv
      exact tail_any (ops := [.ref l, .int k t]) hL.typeIs slot_list_getitem.lookup (wpAny_getItem_list_neg (x := wv) hL hk (by rw [List.size_toArray]; omega) (by omega) ((List.getElem?_toArray ..).trans hwv) ⟨rfl, v, rv, q3⟩) hs
    · rw [if_neg hk] at hwv
      exact tail_any (ops := [.ref l, .int k t]) hL.typeIs slot_list_getitem.lookup (wpAny_getItem_list (x := wv) hL (by omega) (by omega) ((List.getElem?_toArray ..).trans hwv) ⟨rfl, v, rv, q3⟩) hs
  · obtain ⟨a', ha', ws, hx, hr, hL⟩ := R.obj _ _ hi
    rw [hl] at ha'; cases ha'
    obtain ⟨wv, hwv, rv⟩ := hr.get _ _ hv
    have hlen := hr.len
    have hT : IsTup s.heap l ws.toArray := hL
    refine tail_any (ops := [.ref l, .int k t]) hT.typeIs F.slot_tuple_getitem.lookup (PyProof.Rows.getItem_tuple (j := k.toNat) (x := wv) hT (by omega) (by omega) ?_ ((List.getElem?_toArray ..).trans hwv) ⟨rfl, v, rv, q3⟩) hs
    have hk : ¬ k < 0 := by omega
    simp only [seqIndex?, List.size_toArray, ← hlen, if_neg hk]
    rw [if_pos (by simp only [Bool.and_eq_true, decide_eq_true_eq]; exact ⟨q1, q2⟩)]
end
end Mine

set_option linter.unusedVariables false
set_option autoImplicit false
namespace Mine
open PySem PySem.Calls PyProof.Rows

section
variable {prog : Program} {w : World} {hb : Heap} {φ₀ φ : List Addr} {h : Hp} {s : Shared} {A : Around} {Q : KV} {C : Orc} {d : Nat} {cx : Cx} {lo : Lo} {env : Env}

theorem ev1 {e : PySem.Expr} {ie : E} (H : SE prog w hb φ₀ C d cx e ie) (hA : AOk d A) (X : EnvOK hb cx env φ lo s.heap) (R : Rep hb φ₀ φ h s.heap) {K : V → Hp → Prop} (q : wpE C ie lo h K) {P : Value → Shared → Prop}
    (k : ∀ φ₁ av a h₁ s₁, Step φ [] s s₁ φ₁ → Rep hb φ₀ φ₁ h₁ s₁.heap → EnvOK hb cx env φ₁ lo s₁.heap → RV φ₁ av a → K av h₁ → P a s₁) : wpAny (model prog w) A (eval e env) P NoE s :=
  wpAny_mono (H A env φ lo h s K hA X R q) (fun a s₁ p => by
    obtain ⟨φ₁, av, h₁, st, R₁, ra, q₁⟩ := p
    exact k φ₁ av a h₁ s₁ st R₁ (X.step st (by simp)) ra q₁) fun _ _ x => x

inductive SEs (prog : Program) (w : World) (hb : Heap) (φ₀ : List Addr) (C : Orc) (d : Nat) (cx : Cx) : List PySem.Expr → List E → Prop where
  | nil : SEs prog w hb φ₀ C d cx [] []
  | cons {e : PySem.Expr} {ie : E} {es : List PySem.Expr} {ies : List E} : SE prog w hb φ₀ C d cx e ie → (∀ env, starEach (e :: es) env = (false, eval e env) :: starEach es env) → SEs prog w hb φ₀ C d cx es ies → SEs prog w hb φ₀ C d cx (e :: es) (ie :: ies)

theorem evs {es : List PySem.Expr} {ies : List E} (H : SEs prog w hb φ₀ C d cx es ies) (hA : AOk d A) (pos : Pos) : ∀ {φ : List Addr} {h : Hp} {s : Shared}, EnvOK hb cx env φ lo s.heap → Rep hb φ₀ φ h s.heap → ∀ {K : List V → Hp → Prop}, wpEs C ies lo h K → ∀ {P : List Value → Shared → Prop},
    (∀ φ₁ avs as h₁ s₁, Step φ [] s s₁ φ₁ → Rep hb φ₀ φ₁ h₁ s₁.heap → EnvOK hb cx env φ₁ lo s₁.heap → RVs φ₁ avs as → K avs h₁ → P as s₁) → wpAny (model prog w) A (spliced (backTo pos (starEach es env))) P NoE s := by
  induction H with
  | nil =>
    intro φ h s X R K q P k
    exact spliced_none (k φ [] [] h s (Step.refl ..) R X .nil q)
  | cons He hst _ ih =>
    intro φ h s X R K q P k
    refine spliced_more (ev1 He hA X R q fun φ₁ av a h₁ s₁ st₁ R₁ X₁ ra q₁ => ih X₁ R₁ q₁ fun φ₂ avs as h₂ s₂ st₂ R₂ X₂ ras q₂ => ?_) (hst env)
    exact k φ₂ _ _ h₂ s₂ (st₁.trans st₂ R.five) R₂ X₂ (.cons (ra.step st₂) ras) q₂

theorem post_of_mono {φ₁ : List Addr} {s₁ : Shared} {t : Sem Value} (R : Rep hb φ₀ φ h s.heap) (st : Step φ [] s s₁ φ₁) (x : wpAny (model prog w) A t (PostE hb φ₀ φ₁ s₁ Q) NoE s₁) :
    wpAny (model prog w) A t (PostE hb φ₀ φ s Q) NoE s₁ := wpAny_mono x (fun _ _ p => p.trans R st) fun _ _ e => e

/-! ## leaves -/
theorem se_int (i : Int) (k : Nat) (p : Pos) : SE prog w hb φ₀ C d cx (.Constant (.int i) k p) (.i i) := fun A env φ lo h s Q hA X R q =>
  wpAny_Constant_int (post_tok R (RV.i _ _) (by simpa only [qE0, qE1, qE2, qE3, qE4, qE5, qE6, qE7, qE8, qE9, qE10, qE11, qE12, qE13, qE14, qE15, qE16, qE17, qE18, qE19, qE20, qE21, qE22, qE23, qE24, qE25, qE26] using q))
theorem se_bool (b : Bool) (k : Nat) (p : Pos) : SE prog w hb φ₀ C d cx (.Constant (.bool b) k p) (.b b) := fun A env φ lo h s Q hA X R q =>
  wpAny_Constant_bool (post_same R (RV.b _) (by simpa only [qE0, qE1, qE2, qE3, qE4, qE5, qE6, qE7, qE8, qE9, qE10, qE11, qE12, qE13, qE14, qE15, qE16, qE17, qE18, qE19, qE20, qE21, qE22, qE23, qE24, qE25, qE26] using q))

theorem glob_name (St : Stat hb φ₀) {x : Str} {pos : Pos} {v : V} (hx : cx.names.lookup x = some .globalImplicit) (hg : gls.lookup x = some v) {P : Value → Shared → Prop} {E' : Value → Shared → Prop}
    (X : EnvOK hb cx env φ lo s.heap) (R : Rep hb φ₀ φ h s.heap) (k : ∀ wv, RV φ v wv → P wv s) : wpAny (model prog w) A (eval (.Name x pos) env) P E' s := by
  obtain ⟨mg, hn, hm, _⟩ := St.mg
  obtain ⟨wv, e, rv⟩ := hm x v hg
  refine Name_function_global X.kind (X.nglob x hx) (loadGlobal_global (mg := mg) ?_ e (k wv ?_)) (X.nobug x (by rw [hx]; rfl)).1
  · rw [X.glb]; exact hn.keeps R.stays
  · obtain ⟨t, rfl⟩ := R.pre; exact rv.grow

theorem blt_name (St : Stat hb φ₀) {x : Str} {pos : Pos} {v : Value} (hx : cx.names.lookup x = some .globalImplicit) (hmem : x ∈ [nLen, nRange, nMin, nAbs, nInt, nSum, nEnum])
    (hv : ∀ mb, (hb.Ns builtinsNs mb ∧ mb nLen = some (.builtin "len") ∧ mb nRange = some (.type "range") ∧ mb nMin = some (.builtin "min") ∧ mb nAbs = some (.builtin "abs") ∧
    mb nInt = some (.type "int") ∧ mb nSum = some (.builtin "sum") ∧ mb nEnum = some (.type "enumerate")) → mb x = some v) {P : Value → Shared → Prop} {E' : Value → Shared → Prop}
    (X : EnvOK hb cx env φ lo s.heap) (R : Rep hb φ₀ φ h s.heap) (k : P v s) : wpAny (model prog w) A (eval (.Name x pos) env) P E' s := by
  obtain ⟨mg, hn, _, hm⟩ := St.mg
  obtain ⟨mb, hmb⟩ := St.mb
  refine Name_function_global X.kind (X.nglob x hx) (loadGlobal_builtin (mg := mg) (mb := mb) ?_ (hm x hmem) ?_ (hv mb hmb) k) (X.nobug x (by rw [hx]; rfl)).1
  · rw [X.glb]; exact hn.keeps R.stays
  · rw [X.blt]; exact hmb.1.keeps R.stays

theorem load_var {x : Str} {sl : Nat} {v : V} (hk : cx.names.lookup x = some .local ∨ cx.names.lookup x = some .cell ∨ cx.names.lookup x = some .free) (hs : cx.vars.lookup x = some sl) (hv : lo sl = some v)
    {P : Value → Shared → Prop} {E' : Value → Shared → Prop} (X : EnvOK hb cx env φ lo s.heap) (k : ∀ wv, RV φ v wv → P wv s) : wpAny (model prog w) A (loadName env x) P E' s := by
  rcases hk with hk | hk
  · obtain ⟨m, hn, hm⟩ := X.ns
    obtain ⟨wv, e, rv⟩ := hm x sl v hk hs hv
    exact wpAny_loadName_local X.kind (X.nloc x hk) hn e (k wv rv)
  · obtain ⟨c, o, hc, ho, hm⟩ := X.cel x sl hk hs
    obtain ⟨wv, rfl, rv⟩ := hm v hv
    have hkind : env.kindOf x = some .cell ∨ env.kindOf x = some .free := by
      rcases hk with hk | hk
      · exact .inl (X.ncel x hk)
      · exact X.nfre x hk
    rcases hkind with hkd | hkd
    · exact wpAny_loadName_cell X.kind hkd hc ho (k wv rv)
    · exact wpAny_loadName_free X.kind hkd hc ho (k wv rv) (X.nobug x (by rcases hk with hk | hk <;> (rw [hk]; rfl))).2

theorem se_name (St : Stat hb φ₀) {x : Str} {pos : Pos} {ie : E} (hc : cName cx x = some ie) : SE prog w hb φ₀ C d cx (.Name x pos) ie := by
  intro A env φ lo h s Q hA X R q
  rcases cName_some hc with ⟨k, sl, hk, hk3, hs, rfl⟩ | ⟨hk, v, hg, rfl⟩
  · obtain ⟨v, hv, q⟩ := getP_of (K := fun v => Q v h) q
    refine wpAny_Name (load_var ?_ hs hv X fun wv rv => post_same R rv q) (X.nobug x (by rw [hk]; rfl)).1
    rw [hk]; rcases hk3 with rfl | rfl | rfl
    · exact .inl rfl
    · exact .inr (.inl rfl)
    · exact .inr (.inr rfl)
  · rw [X.gl] at hg
    exact glob_name St hk hg X R fun wv rv => post_same R rv q

/-! ## operators -/
theorem se_bin {l r : PySem.Expr} {il ir : E} {op : Bop} {o : Operator} {p : Pos} (ho : bopOf o = some op) (Hl : SE prog w hb φ₀ C d cx l il) (Hr : SE prog w hb φ₀ C d cx r ir) :
    SE prog w hb φ₀ C d cx (.BinOp l o r p) (.bin op il ir) := by
  intro A env φ lo h s Q hA X R q
  simp only [qE0, qE1, qE2, qE3, qE4, qE5, qE6, qE7, qE8, qE9, qE10, qE11, qE12, qE13, qE14, qE15, qE16, qE17, qE18, qE19, qE20, qE21, qE22, qE23, qE24, qE25, qE26] at q
  exact wpAny_BinOp (ev1 Hl hA X R q fun φ₁ av a h₁ s₁ st₁ R₁ X₁ ra q₁ => ev1 Hr hA X₁ R₁ q₁ fun φ₂ bv b h₂ s₂ st₂ R₂ X₂ rb q₂ =>
    post_of_mono R (st₁.trans st₂ R.five) (bop_sound op o ho R₂ (ra.step st₂) rb q₂))

theorem se_neg {e : PySem.Expr} {ie : E} {p : Pos} (H : SE prog w hb φ₀ C d cx e ie) : SE prog w hb φ₀ C d cx (.UnaryOp .USub e p) (.neg ie) := by
  intro A env φ lo h s Q hA X R q
  simp only [qE0, qE1, qE2, qE3, qE4, qE5, qE6, qE7, qE8, qE9, qE10, qE11, qE12, qE13, qE14, qE15, qE16, qE17, qE18, qE19, qE20, qE21, qE22, qE23, qE24, qE25, qE26] at q
  refine wpAny_UnaryOp (ev1 H hA X R q fun φ₁ av a h₁ s₁ st₁ R₁ X₁ ra q₁ => post_of_mono R st₁ ?_)
  obtain ⟨i, e, q₂⟩ := intP_some q₁
  subst e
  obtain ⟨t, rfl⟩ := ra
  exact PyProof.Rows.neg_int (post_tok R₁ (RV.i _ _) q₂)

theorem se_not {e : PySem.Expr} {ie : E} {p : Pos} (H : SE prog w hb φ₀ C d cx e ie) : SE prog w hb φ₀ C d cx (.UnaryOp .Not e p) (.not ie) := by
  intro A env φ lo h s Q hA X R q
  simp only [qE0, qE1, qE2, qE3, qE4, qE5, qE6, qE7, qE8, qE9, qE10, qE11, qE12, qE13, qE14, qE15, qE16, qE17, qE18, qE19, qE20, qE21, qE22, qE23, qE24, qE25, qE26] at q
  refine wpAny_UnaryOp (ev1 H hA X R q fun φ₁ av a h₁ s₁ st₁ R₁ X₁ ra q₁ => post_of_mono R st₁ ?_)
  obtain ⟨i, e, q₂⟩ := boolP_some q₁
  subst e
  cases ra
  exact PyProof.Rows.not_of (wpAny_truthy_bool (post_same R₁ (RV.b _) q₂))

/-! ## tests -/
noncomputable def ST (prog : Program) (w : World) (hb : Heap) (φ₀ : List Addr) (C : Orc) (d : Nat) (cx : Cx) (e : PySem.Expr) (ie : E) : Prop :=
  ∀ (A : Around) (env : Env) (φ : List Addr) (lo : Lo) (h : Hp) (s : Shared) (K : Bool → Hp → Prop) (P : Bool → Shared → Prop), AOk d A → EnvOK hb cx env φ lo s.heap → Rep hb φ₀ φ h s.heap →
    wpE C ie lo h (fun v h => boolP v fun b => K b h) →
    (∀ φ₁ b h₁ s₁, Step φ [] s s₁ φ₁ → Rep hb φ₀ φ₁ h₁ s₁.heap → EnvOK hb cx env φ₁ lo s₁.heap → K b h₁ → P b s₁) →
    wpAny (model prog w) A (isTrue e env (eval e env)) P NoE s

theorem rv_bool {v : V} {wv : Value} {K : Bool → Prop} (hv : RV φ v wv) (q : boolP v K) : ∃ b, v = .bool b ∧ wv = .bool b ∧ K b := by
  obtain ⟨i, rfl, q⟩ := boolP_some q
  cases hv; exact ⟨_, rfl, rfl, q⟩
theorem rv_int {v : V} {wv : Value} {K : Int → Prop} (hv : RV φ v wv) (q : intP v K) : ∃ i t, v = .int i ∧ wv = .int i t ∧ K i := by
  obtain ⟨i, rfl, q⟩ := intP_some q
  obtain ⟨t, rfl⟩ := hv; exact ⟨_, t, rfl, rfl, q⟩

theorem st_of {e : PySem.Expr} {ie : E} (H : SE prog w hb φ₀ C d cx e ie) (he : ∀ env whole, isTrue e env whole = (do let v ← whole; standAt e.pos; holding [v] (truthy v))) : ST prog w hb φ₀ C d cx e ie := by
  intro A env φ lo h s K P hA X R q k
  refine wpAny_isTrue_value (ev1 H hA X R q fun φ₁ av a h₁ s₁ st₁ R₁ X₁ ra q₁ => ?_) (he env _)
  obtain ⟨b, rfl, rfl, q₂⟩ := rv_bool ra q₁
  exact wpAny_truthy_bool (k φ₁ b h₁ s₁ st₁ R₁ X₁ q₂)

theorem st_not {e : PySem.Expr} {ie : E} {p : Pos} (H : ST prog w hb φ₀ C d cx e ie) : ST prog w hb φ₀ C d cx (.UnaryOp .Not e p) (.not ie) := by
  intro A env φ lo h s K P hA X R q k
  simp only [qE0, qE1, qE2, qE3, qE4, qE5, qE6, qE7, qE8, qE9, qE10, qE11, qE12, qE13, qE14, qE15, qE16, qE17, qE18, qE19, qE20, qE21, qE22, qE23, qE24, qE25, qE26] at q
  exact wpAny_isTrue_Not (H A env φ lo h s (fun b h => K (!b) h) _ hA X R q fun φ₁ b h₁ s₁ st R₁ X₁ q₁ => k φ₁ (!b) h₁ s₁ st R₁ X₁ q₁)

theorem st_and {l r : PySem.Expr} {il ir : E} {p : Pos} (Hl : ST prog w hb φ₀ C d cx l il) (Hr : ST prog w hb φ₀ C d cx r ir) : ST prog w hb φ₀ C d cx (.BoolOp .And [l, r] p) (.and il ir) := by
  intro A env φ lo h s K P hA X R q k
  simp only [qE0, qE1, qE2, qE3, qE4, qE5, qE6, qE7, qE8, qE9, qE10, qE11, qE12, qE13, qE14, qE15, qE16, qE17, qE18, qE19, qE20, qE21, qE22, qE23, qE24, qE25, qE26] at q
  refine wpAny_isTrue_BoolOp (wpAny_allTrue_And_cons (Hl A env φ lo h s _ _ hA X R q fun φ₁ b h₁ s₁ st₁ R₁ X₁ q₁ => ?_))
  cases b with
  | true =>
    refine wpAny_allTrue_And_cons (Hr A env φ₁ lo h₁ s₁ _ _ hA X₁ R₁ q₁ fun φ₂ b h₂ s₂ st₂ R₂ X₂ q₂ => ?_)
    cases b with
    | true => exact wpAny_allTrue_And_nil (k φ₂ true h₂ s₂ (st₁.trans st₂ R.five) R₂ X₂ q₂)
    | false => exact k φ₂ false h₂ s₂ (st₁.trans st₂ R.five) R₂ X₂ q₂
  | false => exact k φ₁ false h₁ s₁ st₁ R₁ X₁ q₁

theorem st_ite {c t e : PySem.Expr} {ic it ie : E} {p : Pos} (Hc : ST prog w hb φ₀ C d cx c ic) (Ht : ST prog w hb φ₀ C d cx t it) (He : ST prog w hb φ₀ C d cx e ie) : ST prog w hb φ₀ C d cx (.IfExp c t e p) (.ite ic it ie) := by
  intro A env φ lo h s K P hA X R q k
  simp only [qE0, qE1, qE2, qE3, qE4, qE5, qE6, qE7, qE8, qE9, qE10, qE11, qE12, qE13, qE14, qE15, qE16, qE17, qE18, qE19, qE20, qE21, qE22, qE23, qE24, qE25, qE26] at q
  refine PyProof.Rows.isTrue_IfExp (Hc A env φ lo h s _ _ hA X R q fun φ₁ b h₁ s₁ st₁ R₁ X₁ q₁ => ?_)
  cases b with
  | true => exact Ht A env φ₁ lo h₁ s₁ _ _ hA X₁ R₁ q₁ fun φ₂ b h₂ s₂ st₂ R₂ X₂ q₂ => k φ₂ b h₂ s₂ (st₁.trans st₂ R.five) R₂ X₂ q₂
  | false => exact He A env φ₁ lo h₁ s₁ _ _ hA X₁ R₁ q₁ fun φ₂ b h₂ s₂ st₂ R₂ X₂ q₂ => k φ₂ b h₂ s₂ (st₁.trans st₂ R.five) R₂ X₂ q₂

theorem se_and {l r : PySem.Expr} {il ir : E} {p : Pos} (Hl : SE prog w hb φ₀ C d cx l il) (Hr : SE prog w hb φ₀ C d cx r ir) : SE prog w hb φ₀ C d cx (.BoolOp .And [l, r] p) (.and il ir) := by
  intro A env φ lo h s Q hA X R q
  simp only [qE0, qE1, qE2, qE3, qE4, qE5, qE6, qE7, qE8, qE9, qE10, qE11, qE12, qE13, qE14, qE15, qE16, qE17, qE18, qE19, qE20, qE21, qE22, qE23, qE24, qE25, qE26] at q
  refine wpAny_And2 (ev1 Hl hA X R q fun φ₁ av a h₁ s₁ st₁ R₁ X₁ ra q₁ => ?_)
  obtain ⟨b, rfl, rfl, q₂⟩ := rv_bool ra q₁
  refine wpAny_truthy_bool ?_
  cases b with
  | true => exact post_of_mono R st₁ (Hr A env φ₁ lo h₁ s₁ Q hA X₁ R₁ q₂)
  | false => exact (post_same R₁ (RV.b _) q₂).trans R st₁

theorem se_ite {c t e : PySem.Expr} {ic it ie : E} {p : Pos} (Hc : ST prog w hb φ₀ C d cx c ic) (Ht : SE prog w hb φ₀ C d cx t it) (He : SE prog w hb φ₀ C d cx e ie) : SE prog w hb φ₀ C d cx (.IfExp c t e p) (.ite ic it ie) := by
  intro A env φ lo h s Q hA X R q
  simp only [qE0, qE1, qE2, qE3, qE4, qE5, qE6, qE7, qE8, qE9, qE10, qE11, qE12, qE13, qE14, qE15, qE16, qE17, qE18, qE19, qE20, qE21, qE22, qE23, qE24, qE25, qE26] at q
  refine wpAny_IfExp (Hc A env φ lo h s _ _ hA X R q fun φ₁ b h₁ s₁ st₁ R₁ X₁ q₁ => ?_)
  cases b with
  | true => exact post_of_mono R st₁ (Ht A env φ₁ lo h₁ s₁ Q hA X₁ R₁ q₁)
  | false => exact post_of_mono R st₁ (He A env φ₁ lo h₁ s₁ Q hA X₁ R₁ q₁)
end
end Mine

set_option linter.unusedVariables false
set_option autoImplicit false
namespace Mine
open PySem PySem.Calls PyProof.Rows

theorem range_pick {α : Type} : ∀ l : List α, (List.range l.length).filterMap (fun k => l[k]?) = l
  | [] => rfl
  | a :: l => by
    rw [List.length_cons, List.range_succ_eq_map, List.filterMap_cons]
    simp only [List.getElem?_cons_zero, List.filterMap_map, Function.comp_def, List.getElem?_cons_succ, Nat.succ_eq_add_one]
    rw [range_pick l]
theorem fm_congr {α β : Type} {f g : α → Option β} : ∀ l : List α, (∀ a ∈ l, f a = g a) → l.filterMap f = l.filterMap g
  | [], _ => rfl
  | a :: l, h => by
    rw [List.filterMap_cons, List.filterMap_cons, h a (by simp), fm_congr l fun b hb => h b (by simp [hb])]
theorem pick_rev (ws : List Value) : slicePick ws.toArray none none (some (-1)) = ws.reverse.toArray := by
  unfold slicePick
  have hb : sliceBounds none none (some (-1)) ws.toArray.size = ((ws.length : Int) - 1, -1, -1) := by
    simp [sliceBounds]
  rw [hb]
  congr 1
  unfold sliceRange
  have hc : (if (-1 : Int) > 0 then (if (ws.length : Int) - 1 < -1 then (-1 - ((ws.length : Int) - 1) + -1 - 1) / -1 else 0) else (if (ws.length : Int) - 1 > -1 then ((ws.length : Int) - 1 - -1 - -1 - 1) / (- -1) else 0)).toNat = ws.length := by
    rw [if_neg (by decide), show (- -1 : Int) = 1 by decide, Int.ediv_one]
    split <;> omega
  simp only [hc, List.filterMap_map]
  rw [show (List.range ws.length).filterMap ((fun x => ws.toArray[x]?) ∘ fun (k : Nat) => ((ws.length : Int) - 1 + -1 * (k : Int)).toNat) = (List.range ws.reverse.length).filterMap (fun k => ws.reverse[k]?) from ?_, range_pick]
  rw [List.length_reverse]
  refine fm_congr _ fun k hk => ?_
  rw [List.mem_range] at hk
  show ws.toArray[((ws.length : Int) - 1 + -1 * (k : Int)).toNat]? = _
  rw [show ((ws.length : Int) - 1 + -1 * (k : Int)).toNat = ws.length - 1 - k by omega, List.getElem?_reverse hk]
  simp

section
variable {prog : Program} {w : World} {hb : Heap} {φ₀ φ : List Addr} {h : Hp} {s : Shared} {A : Around} {Q : KV} {C : Orc} {d : Nat} {cx : Cx} {lo : Lo} {env : Env}

/-! ## trees -/
theorem den_reads (R : Rep hb φ₀ φ h s.heap) {v : V} {wv : Value} {t : PyData} (x : Den h v t) (hv : RV φ v wv) : ∃ as, Reads s.heap wv t as := by
  refine Den.rec (h := h) (motive_1 := fun v t _ => ∀ wv, RV φ v wv → ∃ as, Reads s.heap wv t as) (motive_2 := fun vs ts _ => ∀ ws, RVs φ vs ws → ∃ as, ReadsAll s.heap ws ts as) ?_ ?_ ?_ ?_ ?_ ?_ x wv hv
  · intro x wv hv; cases hv; exact ⟨_, Reads.bool _⟩
  · intro x wv hv; obtain ⟨t, rfl⟩ := hv; exact ⟨_, Reads.int _ _⟩
  · intro a xs ds ha hs ih wv hv
    obtain ⟨a, hp, rfl⟩ := hv
    obtain ⟨a', hp', ws, _, hr, o, ho, hc, n, hd⟩ := R.obj _ _ ha
    rw [hp] at hp'; cases hp'
    obtain ⟨as, q⟩ := ih _ hr
    exact ⟨_, reads_list_at ho hc hd (by simpa using q)⟩
  · intro a xs ds ha hs ih wv hv
    obtain ⟨a, hp, rfl⟩ := hv
    obtain ⟨a', hp', ws, _, hr, o, ho, hc, n, hd⟩ := R.obj _ _ ha
    rw [hp] at hp'; cases hp'
    obtain ⟨as, q⟩ := ih _ hr
    exact ⟨_, reads_tuple_at ho hc hd (by simpa using q)⟩
  · intro ws hr
    cases hr; exact ⟨_, ReadsAll.nil⟩
  · intro v vs d ds hd hs i1 i2 ws hr
    cases hr with
    | cons hv hr =>
      obtain ⟨as, q⟩ := i1 _ hv
      obtain ⟨bs, p⟩ := i2 _ hr
      exact ⟨_, ReadsAll.cons q p⟩
theorem den_ok {v : V} {t : PyData} (x : Den h v t) : t.canLay0 = true ∧ PyData.eqv t t = true := by
  refine Den.rec (h := h) (motive_1 := fun v t _ => t.canLay0 = true ∧ PyData.eqv t t = true) (motive_2 := fun vs ts _ => PyData.canLayAll0 ts = true ∧ PyData.eqvAll ts ts = true) ?_ ?_ ?_ ?_ ?_ ?_ x
  · intro x; exact ⟨rfl, by cases x <;> rfl⟩
  · intro x; simp [PyData.canLay0, PyData.eqv]
  · intro a xs ds ha hs ih; simpa [PyData.canLay0, PyData.eqv] using ih
  · intro a xs ds ha hs ih; simpa [PyData.canLay0, PyData.eqv] using ih
  · exact ⟨rfl, rfl⟩
  · intro v vs d ds hd hs i1 i2; simp [PyData.canLayAll0, PyData.eqvAll, i1, i2]

theorem copP_eq_or {a b : V} {h : Hp} {K : Bool → Prop} (q : copP .eq a b h K) : (boolP a fun x => boolP b fun y => K (x == y)) ∨ intP a fun x => intP b fun y => K (x == y) := by
  cases a <;> first | exact .inr q | exact .inl q
theorem copP_ne_or {a b : V} {h : Hp} {K : Bool → Prop} (q : copP .ne a b h K) : (isRef a = true ∧ sameP a b h K) ∨ (boolP a fun x => boolP b fun y => K (x != y)) ∨ intP a fun x => intP b fun y => K (x != y) := by
  cases a <;> first | exact .inr (.inr q) | exact .inr (.inl q) | exact .inl ⟨rfl, q⟩
theorem same_sound {a b : V} {wa wb : Value} {K : Bool → Prop} {P E' : Value → Shared → Prop} (hA : AOk d A) (R : Rep hb φ₀ φ h s.heap) (ha : RV φ a wa) (hb' : RV φ b wb)
    (hr : isRef a = true) (q : sameP a b h K) (k : ∀ c, K c → P (.bool c) s) : wpAny (model prog w) A (compareOp .NotEq wa wb) P E' s := by
  obtain ⟨t, ⟨d1, d2, hdep⟩, q⟩ := q
  obtain ⟨as, r1⟩ := den_reads R d1 ha
  obtain ⟨bs, r2⟩ := den_reads R d2 hb'
  have ok := den_ok d1
  have sh : SeqAt.shaped t = true := by
    unfold SeqAt.shaped; rw [ok.1, Bool.true_and]; exact decide_eq_true (by omega)
  have wr : ∀ {v wv}, RV φ v wv → (isRef v = true) → ∃ l, wv = .ref l := fun {v wv} hv e => by
    cases v with
    | ref i => obtain ⟨l, _, e⟩ := hv; exact ⟨l, e⟩
    | _ => exact ff e
  have hr2 : isRef b = true := by
    cases d1 with
    | b => exact ff hr
    | i => exact ff hr
    | L _ _ => cases d2; rfl
    | T _ _ => cases d2; rfl
  obtain ⟨_, rfl⟩ := wr ha hr
  obtain ⟨_, rfl⟩ := wr hb' hr2
  refine ne_dataH r1 r2 sh sh (by have := hA.2.2; omega) ?_
  rw [ok.2]; exact k _ q
theorem cop_sound (op : Cop) (o : CmpOp) (ho : copOf o = some op) {a b : V} {wa wb : Value} {K : Bool → Prop} {P E' : Value → Shared → Prop} (hA : AOk d A) (R : Rep hb φ₀ φ h s.heap) (ha : RV φ a wa) (hb' : RV φ b wb)
    (q : copP op a b h K) (k : ∀ c, K c → P (.bool c) s) : wpAny (model prog w) A (compareOp o wa wb) P E' s := by
  cases o <;> first | exact nn ho | cases ho
  · rcases copP_eq_or q with q | q
    · obtain ⟨x, y, rfl, rfl, q⟩ := rv_bool2 ha hb' q
      exact PyProof.Rows.eq_bool (k _ q)
    · obtain ⟨x, y, t, u, rfl, rfl, q⟩ := rv_int2 ha hb' q
      exact PyProof.Rows.eq_int (k _ q)
  · rcases copP_ne_or q with ⟨hr, q⟩ | q | q
    · exact same_sound hA R ha hb' hr q k
    · obtain ⟨x, y, rfl, rfl, q⟩ := rv_bool2 ha hb' q
      exact PyProof.Rows.ne_bool (k _ q)
    · obtain ⟨x, y, t, u, rfl, rfl, q⟩ := rv_int2 ha hb' q
      exact PyProof.Rows.ne_int (k _ q)
  · obtain ⟨x, y, t, u, rfl, rfl, q⟩ := rv_int2 ha hb' q
    exact PyProof.Rows.lt_int (k _ q)
  · obtain ⟨x, y, t, u, rfl, rfl, q⟩ := rv_int2 ha hb' q
    exact PyProof.Rows.le_int (k _ q)
  · obtain ⟨x, y, t, u, rfl, rfl, q⟩ := rv_int2 ha hb' q
    exact PyProof.Rows.gt_int (k _ q)
  · obtain ⟨x, y, t, u, rfl, rfl, q⟩ := rv_int2 ha hb' q
    exact PyProof.Rows.ge_int (k _ q)

theorem marks_no {op : Cop} {o : CmpOp} (r : PySem.Expr) (ho : copOf o = some op) : behindInMarks o r = false := by
  cases r with
  | Set es k p =>
    cases o <;> first | exact nn ho | (show ((k == 0 && false) && _) = false; rw [Bool.and_false, Bool.false_and])
  | _ => rfl

theorem se_cmp {l r : PySem.Expr} {il ir : E} {op : Cop} {o : CmpOp} {p : Pos} (ho : copOf o = some op) (Hl : SE prog w hb φ₀ C d cx l il) (Hr : SE prog w hb φ₀ C d cx r ir) :
    SE prog w hb φ₀ C d cx (.Compare l [o] [r] p) (.cmp op il ir) := by
  intro A env φ lo h s Q hA X R q
  simp only [qE0, qE1, qE2, qE3, qE4, qE5, qE6, qE7, qE8, qE9, qE10, qE11, qE12, qE13, qE14, qE15, qE16, qE17, qE18, qE19, qE20, qE21, qE22, qE23, qE24, qE25, qE26] at q
  refine wpAny_Compare1 (ev1 Hl hA X R q fun φ₁ av a h₁ s₁ st₁ R₁ X₁ ra q₁ => ev1 Hr hA X₁ R₁ q₁ fun φ₂ bv b h₂ s₂ st₂ R₂ X₂ rb q₂ =>
    cop_sound op o ho hA R₂ (ra.step st₂) rb q₂ fun c hc => (post_same R₂ (RV.b c) hc).trans R (st₁.trans st₂ R.five)) ?_
  exact marks_no r ho

theorem st_cmp {l r : PySem.Expr} {il ir : E} {op : Cop} {o : CmpOp} {p : Pos} (ho : copOf o = some op) (Hl : SE prog w hb φ₀ C d cx l il) (Hr : SE prog w hb φ₀ C d cx r ir) :
    ST prog w hb φ₀ C d cx (.Compare l [o] [r] p) (.cmp op il ir) := by
  intro A env φ lo h s K P hA X R q k
  simp only [qE0, qE1, qE2, qE3, qE4, qE5, qE6, qE7, qE8, qE9, qE10, qE11, qE12, qE13, qE14, qE15, qE16, qE17, qE18, qE19, qE20, qE21, qE22, qE23, qE24, qE25, qE26] at q
  refine wpAny_isTrue_Compare1 (ev1 Hl hA X R q fun φ₁ av a h₁ s₁ st₁ R₁ X₁ ra q₁ => ev1 Hr hA X₁ R₁ q₁ fun φ₂ bv b h₂ s₂ st₂ R₂ X₂ rb q₂ =>
    cop_sound op o ho hA R₂ (ra.step st₂) rb q₂ fun c hc => wpAny_truthy_bool (k φ₂ c h₂ s₂ (st₁.trans st₂ R.five) R₂ X₂ hc)) ?_
  exact marks_no r ho

/-! ## subscripts, slices -/
theorem se_ix {o i : PySem.Expr} {io ii : E} {p : Pos} (Ho : SE prog w hb φ₀ C d cx o io) (Hi : SE prog w hb φ₀ C d cx i ii)
    (hs : ∀ wa wb, subscripted i false wa wb = operate [wa, wb] (getItem wa wb)) : SE prog w hb φ₀ C d cx (.Subscript o i p) (.ix io ii) := by
  intro A env φ lo h s Q hA X R q
  simp only [qE0, qE1, qE2, qE3, qE4, qE5, qE6, qE7, qE8, qE9, qE10, qE11, qE12, qE13, qE14, qE15, qE16, qE17, qE18, qE19, qE20, qE21, qE22, qE23, qE24, qE25, qE26] at q
  exact Subscript_ (ev1 Ho hA X R q fun φ₁ av a h₁ s₁ st₁ R₁ X₁ ra q₁ => ev1 Hi hA X₁ R₁ q₁ fun φ₂ bv b h₂ s₂ st₂ R₂ X₂ rb q₂ =>
    wpAny_mono (ix_sound o i (E' := NoE) R₂ (ra.step st₂) rb q₂ (hs _ _)) (fun r s₃ ⟨e, v, rv, kv⟩ => by
      subst e
      exact (post_same R₂ rv kv).trans R (st₁.trans st₂ R.five)) fun _ _ x => x)

theorem slice_list {l sl : Addr} {ws : List Value} {vl vu vs : Value} {lo' hi st : Option Int} {zs : List V} {us : List Value} (value slice : PySem.Expr) (R : Rep hb φ₀ φ h s.heap) (hL : s.heap.IsList l ws.toArray)
    (hb' : ws.length ≤ big) (hsl : s.heap.IsSliceOf sl vl vu vs) (pl : IsPart vl lo') (pu : IsPart vu hi) (ps : IsPart vs st) (h0 : st ≠ some 0) (e : slicePick ws.toArray lo' hi st = us.toArray) (hz : RVs φ zs us) (hzl : zs.length ≤ big)
    (hs : ∃ ops, subscripted slice false (.ref l) (.ref sl) = operate ops (getItem (.ref l) (.ref sl))) (q : Q (.ref h.length) (h ++ [.L zs])) :
    wpAny (model prog w) A (subscriptTail value slice (.ref l) (.ref sl)) (PostE hb φ₀ φ s Q) NoE s := by
  obtain ⟨ops, hs⟩ := hs
  refine tail_any (ops := ops) hL.typeIs slot_list_getitem.lookup (wpAny_getItem_list_slice hL hsl pl pu ps h0 ?_ (by rw [List.size_toArray]; exact hb')) hs
  rw [e]
  exact post_list (tk := s.toks) R hzl hz q

theorem push_slice (R : Rep hb φ₀ φ h s.heap) (o : Obj) : Step φ [] s { s with heap := s.heap.push o } φ ∧ Rep hb φ₀ φ h (s.heap.push o) :=
  ⟨Step.of_keeps (s.heap.push o) s.toks fun b o' e => Heap.get?_push_of_some _ e, R.keeps fun b o' e => Heap.get?_push_of_some _ e⟩

theorem se_slL {o hi : PySem.Expr} {io ih : E} {p p' : Pos} (Ho : SE prog w hb φ₀ C d cx o io) (Hi : SE prog w hb φ₀ C d cx hi ih) : SE prog w hb φ₀ C d cx (.Subscript o (.Slice none (some hi) none p) p') (.slL io ih) := by
  intro A env φ lo h s Q hA X R q
  simp only [qE0, qE1, qE2, qE3, qE4, qE5, qE6, qE7, qE8, qE9, qE10, qE11, qE12, qE13, qE14, qE15, qE16, qE17, qE18, qE19, qE20, qE21, qE22, qE23, qE24, qE25, qE26] at q
  refine Subscript_ (ev1 Ho hA X R q fun φ₁ av a h₁ s₁ st₁ R₁ X₁ ra q₁ => wpAny_Slice (wpAny_evalPart_none (wpAny_evalPart_some (ev1 Hi hA X₁ R₁ q₁ fun φ₂ bv b h₂ s₂ st₂ R₂ X₂ rb q₂ => wpAny_evalPart_none ?_))))
  obtain ⟨i, l, xs, ws, rfl, rfl, hi', hl, hx, hr, hL, q₃⟩ := rep_list R₂ (ra.step st₂) q₂
  obtain ⟨k, t, rfl, rfl, q₄⟩ := rv_int rb q₃
  obtain ⟨st₃, R₃⟩ := push_slice R₂ { cls := .type "slice", data := .fields #[.none, .int k t, .none] }
  refine post_of_mono R ((st₁.trans st₂ R.five).trans st₃ R.five) ?_
  refine slice_list (s := { s₂ with heap := _ }) o _ R₃ (hL.at fun o e => Heap.get?_push_of_some _ e) (by rw [← hr.len]; exact hx) ⟨_, Heap.get?_push_size _ rfl, rfl, rfl⟩ .none (.int k t) .none (by simp) (us := ws.take k.toNat) ?_ (hr.take _)
    (by rw [List.length_take]; omega) ⟨_, rfl⟩ q₄.2
  obtain ⟨n, rfl⟩ := Int.eq_ofNat_of_zero_le q₄.1
  simpa using slicePick_upto' ws.toArray n

theorem se_slM {o l₀ hi : PySem.Expr} {io il ih : E} {p p' : Pos} (Ho : SE prog w hb φ₀ C d cx o io) (Hl : SE prog w hb φ₀ C d cx l₀ il) (Hi : SE prog w hb φ₀ C d cx hi ih) :
    SE prog w hb φ₀ C d cx (.Subscript o (.Slice (some l₀) (some hi) none p) p') (.slM io il ih) := by
  intro A env φ lo h s Q hA X R q
  simp only [qE0, qE1, qE2, qE3, qE4, qE5, qE6, qE7, qE8, qE9, qE10, qE11, qE12, qE13, qE14, qE15, qE16, qE17, qE18, qE19, qE20, qE21, qE22, qE23, qE24, qE25, qE26] at q
  refine Subscript_ (ev1 Ho hA X R q fun φ₁ av a h₁ s₁ st₁ R₁ X₁ ra q₁ => wpAny_Slice (wpAny_evalPart_some (ev1 Hl hA X₁ R₁ q₁ fun φ₂ bv b h₂ s₂ st₂ R₂ X₂ rb q₂ =>
    wpAny_evalPart_some (ev1 Hi hA X₂ R₂ q₂ fun φ₃ cv c h₃ s₃ st₃ R₃ X₃ rc q₃ => wpAny_evalPart_none ?_))))
  obtain ⟨i, l, xs, ws, rfl, rfl, hi', hl, hx, hr, hL, q₄⟩ := rep_list R₃ ((ra.step st₂).step st₃) q₃
  obtain ⟨j, u, rfl, rfl, q₅⟩ := rv_int (rb.step st₃) q₄
  obtain ⟨k, t, rfl, rfl, q₆⟩ := rv_int rc q₅
  obtain ⟨st₄, R₄⟩ := push_slice R₃ { cls := .type "slice", data := .fields #[.int j u, .int k t, .none] }
  refine post_of_mono R (((st₁.trans st₂ R.five).trans st₃ R.five).trans st₄ R.five) ?_
  refine slice_list (s := { s₃ with heap := _ }) o _ R₄ (hL.at fun o e => Heap.get?_push_of_some _ e) (by rw [← hr.len]; exact hx) ⟨_, Heap.get?_push_size _ rfl, rfl, rfl⟩ (.int j u) (.int k t) .none (by simp)
    (us := (ws.drop j.toNat).take (k.toNat - j.toNat)) ?_ ((hr.drop _).take _) (by rw [List.length_take, List.length_drop]; exact Nat.le_trans (Nat.min_le_right _ _) (Nat.le_trans (Nat.sub_le _ _) hx)) ⟨_, rfl⟩ q₆.2
  have hlen := hr.len
  obtain ⟨n, rfl⟩ := Int.eq_ofNat_of_zero_le q₆.1.1
  obtain ⟨m, rfl⟩ := Int.eq_ofNat_of_zero_le (Int.le_trans q₆.1.1 q₆.1.2.1)
  have := q₆.1.2
  simpa using slicePick_run ws.toArray n m (by simp; omega) (by omega)

theorem se_slA {o : PySem.Expr} {io : E} {p p' : Pos} (Ho : SE prog w hb φ₀ C d cx o io) : SE prog w hb φ₀ C d cx (.Subscript o (.Slice none none none p) p') (.slA io) := by
  intro A env φ lo h s Q hA X R q
  simp only [qE0, qE1, qE2, qE3, qE4, qE5, qE6, qE7, qE8, qE9, qE10, qE11, qE12, qE13, qE14, qE15, qE16, qE17, qE18, qE19, qE20, qE21, qE22, qE23, qE24, qE25, qE26] at q
  refine Subscript_ (ev1 Ho hA X R q fun φ₁ av a h₁ s₁ st₁ R₁ X₁ ra q₁ => wpAny_Slice (wpAny_evalPart_none (wpAny_evalPart_none (wpAny_evalPart_none ?_))))
  obtain ⟨i, l, xs, ws, rfl, rfl, hi', hl, hx, hr, hL, q₃⟩ := rep_list R₁ ra q₁
  obtain ⟨st₃, R₃⟩ := push_slice R₁ { cls := .type "slice", data := .fields #[.none, .none, .none] }
  refine post_of_mono R (st₁.trans st₃ R.five) ?_
  exact slice_list (s := { s₁ with heap := _ }) o _ R₃ (hL.at fun o e => Heap.get?_push_of_some _ e) (by rw [← hr.len]; exact hx) ⟨_, Heap.get?_push_size _ rfl, rfl, rfl⟩ .none .none .none (by simp) (us := ws)
    (slicePick_all _) hr hx ⟨_, rfl⟩ q₃

theorem se_rev {o : PySem.Expr} {io : E} {k₁ : Nat} {p₁ p₂ p p' : Pos} (Ho : SE prog w hb φ₀ C d cx o io) :
    SE prog w hb φ₀ C d cx (.Subscript o (.Slice none none (some (.UnaryOp .USub (.Constant (.int 1) k₁ p₁) p₂)) p) p') (.rev io) := by
  intro A env φ lo h s Q hA X R q
  simp only [qE0, qE1, qE2, qE3, qE4, qE5, qE6, qE7, qE8, qE9, qE10, qE11, qE12, qE13, qE14, qE15, qE16, qE17, qE18, qE19, qE20, qE21, qE22, qE23, qE24, qE25, qE26] at q
  refine Subscript_ (ev1 Ho hA X R q fun φ₁ av a h₁ s₁ st₁ R₁ X₁ ra q₁ => wpAny_Slice (wpAny_evalPart_none (wpAny_evalPart_none (wpAny_evalPart_some (wpAny_UnaryOp (wpAny_Constant_int (PyProof.Rows.neg_int ?_)))))))
  obtain ⟨i, l, xs, ws, rfl, rfl, hi', hl, hx, hr, hL, q₃⟩ := rep_list R₁ ra q₁
  have R₂ : Rep hb φ₀ φ₁ h₁ ({ s₁ with toks := s₁.toks + 1 + 1 } : Shared).heap := R₁
  have st₂ : Step φ₁ [] s₁ { s₁ with toks := s₁.toks + 1 + 1 } φ₁ := Step.of_keeps s₁.heap _ fun _ _ e => e
  obtain ⟨st₃, R₃⟩ := push_slice R₂ { cls := .type "slice", data := .fields #[.none, .none, .int (-1) (s₁.toks + 1)] }
  refine post_of_mono R ((st₁.trans st₂ R.five).trans st₃ R.five) ?_
  refine slice_list (s := { s₁ with heap := _, toks := _ }) o _ R₃ (hL.at fun o e => Heap.get?_push_of_some _ e) (by rw [← hr.len]; exact hx) ⟨_, Heap.get?_push_size _ rfl, rfl, rfl⟩ .none .none (.int (-1) _) (by simp) (us := ws.reverse)
    ?_ hr.reverse (by simpa using hx) ⟨_, rfl⟩ q₃
  exact pick_rev ws

/-! ## displays -/
theorem wpEs_len {ies : List E} : ∀ {lo : Lo} {h : Hp} {K : List V → Hp → Prop} {es : List PySem.Expr}, True → True := fun _ => trivial

theorem SEs.len {es : List PySem.Expr} {ies : List E} (H : SEs prog w hb φ₀ C d cx es ies) : es.length = ies.length := by
  induction H with
  | nil => rfl
  | cons _ _ _ ih => simp [ih]

theorem evs_len {es : List PySem.Expr} {ies : List E} (H : SEs prog w hb φ₀ C d cx es ies) (hA : AOk d A) (pos : Pos) : ∀ {φ : List Addr} {h : Hp} {s : Shared}, EnvOK hb cx env φ lo s.heap → Rep hb φ₀ φ h s.heap → ∀ {K : List V → Hp → Prop}, wpEs C ies lo h K → ∀ {P : List Value → Shared → Prop},
    (∀ φ₁ avs as h₁ s₁, Step φ [] s s₁ φ₁ → Rep hb φ₀ φ₁ h₁ s₁.heap → EnvOK hb cx env φ₁ lo s₁.heap → RVs φ₁ avs as → avs.length = es.length → K avs h₁ → P as s₁) → wpAny (model prog w) A (spliced (backTo pos (starEach es env))) P NoE s := by
  induction H with
  | nil =>
    intro φ h s X R K q P k
    exact spliced_none (k φ [] [] h s (Step.refl ..) R X .nil rfl q)
  | cons He hst _ ih =>
    intro φ h s X R K q P k
    refine spliced_more (ev1 He hA X R q fun φ₁ av a h₁ s₁ st₁ R₁ X₁ ra q₁ => ih X₁ R₁ q₁ fun φ₂ avs as h₂ s₂ st₂ R₂ X₂ ras hl q₂ => ?_) (hst env)
    exact k φ₂ _ _ h₂ s₂ (st₁.trans st₂ R.five) R₂ X₂ (.cons (ra.step st₂) ras) (by simp [hl]) q₂

theorem se_lst {es : List PySem.Expr} {ies : List E} {p : Pos} (H : SEs prog w hb φ₀ C d cx es ies) (hn : es.length ≤ 100) : SE prog w hb φ₀ C d cx (.List es p) (.lst ies) := by
  intro A env φ lo h s Q hA X R q
  simp only [qE0, qE1, qE2, qE3, qE4, qE5, qE6, qE7, qE8, qE9, qE10, qE11, qE12, qE13, qE14, qE15, qE16, qE17, qE18, qE19, qE20, qE21, qE22, qE23, qE24, qE25, qE26] at q
  refine wpAny_List_spliced (evs_len H hA p X R q fun φ₁ avs as h₁ s₁ st₁ R₁ X₁ ra hl q₁ => ?_)
  have hbig : big = 16777216 := rfl
  have hsl : sizeLine = 16777216 := rfl
  refine ⟨by rw [← ra.len]; omega, ?_⟩
  exact (post_list (tk := s₁.toks) R₁ (by omega) ra q₁).trans R st₁

theorem se_tup {es : List PySem.Expr} {ies : List E} {p : Pos} {k : Nat} (H : SEs prog w hb φ₀ C d cx es ies) (hn : es.length ≤ 100) : SE prog w hb φ₀ C d cx (.Tuple es k p) (.tup ies) := by
  intro A env φ lo h s Q hA X R q
  simp only [qE0, qE1, qE2, qE3, qE4, qE5, qE6, qE7, qE8, qE9, qE10, qE11, qE12, qE13, qE14, qE15, qE16, qE17, qE18, qE19, qE20, qE21, qE22, qE23, qE24, qE25, qE26] at q
  refine wpAny_Tuple_spliced (evs_len H hA p X R q fun φ₁ avs as h₁ s₁ st₁ R₁ X₁ ra hl q₁ => ?_)
  have hbig : big = 16777216 := rfl
  have hsl : sizeLine = 16777216 := rfl
  refine ⟨by rw [← ra.len]; omega, ?_⟩
  exact (post_tup (tk := s₁.toks) R₁ (by omega) ra q₁).trans R st₁
end
end Mine

set_option linter.unusedVariables false
set_option autoImplicit false
namespace Mine
open PySem PySem.Calls PyProof.Rows

section
variable {prog : Program} {w : World} {hb : Heap} {φ₀ φ : List Addr} {h : Hp} {s : Shared} {A : Around} {Q : KV} {C : Orc} {d : Nat} {cx : Cx} {lo : Lo} {env : Env}

theorem builtin_is {n m : Str} (hb' : isBuiltin cx n m = true) : n = m ∧ cx.names.lookup n = some .globalImplicit := by
  simp only [isBuiltin, Bool.and_eq_true, beq_iff_eq] at hb'
  exact ⟨hb'.1.1, hb'.1.2⟩

theorem SEs.plain {es : List PySem.Expr} {ies : List E} (H : SEs prog w hb φ₀ C d cx es ies) (env : Env) (pos : Pos) : (backTo pos (starEach es env)).any (·.1) = false := by
  induction H with
  | nil => rfl
  | cons _ hst _ ih => rw [hst env]; simpa [backTo] using ih
theorem SEs.tail {e : PySem.Expr} {ie : E} {es : List PySem.Expr} {ies : List E} (H : SEs prog w hb φ₀ C d cx (e :: es) (ie :: ies)) : SEs prog w hb φ₀ C d cx es ies := by
  cases H; assumption

/-- a call of a built-in function by its name, its arguments plain -/
theorem call_blt (St : Stat hb φ₀) {n m : Str} {id : String} {np pos : Pos} {e : PySem.Expr} {es : List PySem.Expr} {ie : E} {ies : List E} (hn : isBuiltin cx n m = true) (hmem : m ∈ [nLen, nRange, nMin, nAbs, nInt, nSum, nEnum])
    (hv : ∀ mb, (hb.Ns builtinsNs mb ∧ mb nLen = some (.builtin "len") ∧ mb nRange = some (.type "range") ∧ mb nMin = some (.builtin "min") ∧ mb nAbs = some (.builtin "abs") ∧
    mb nInt = some (.type "int") ∧ mb nSum = some (.builtin "sum") ∧ mb nEnum = some (.type "enumerate")) → mb m = some (.builtin id))
    (H : SEs prog w hb φ₀ C d cx (e :: es) (ie :: ies)) (he : ∀ env, starEach (e :: es) env = (false, eval e env) :: starEach es env) (hA : AOk d A) (X : EnvOK hb cx env φ lo s.heap) (R : Rep hb φ₀ φ h s.heap) {K : List V → Hp → Prop} (q : wpEs C (ie :: ies) lo h K)
    (k : ∀ φ₁ avs as h₁ s₁, Step φ [] s s₁ φ₁ → Rep hb φ₀ φ₁ h₁ s₁.heap → RVs φ₁ avs as → avs.length = (e :: es).length → K avs h₁ → wpAny (model prog w) A (call (.builtin id) as) (PostE hb φ₀ φ₁ s₁ Q) NoE s₁) :
    wpAny (model prog w) A (eval (.Call (.Name n np) (e :: es) [] pos) env) (PostE hb φ₀ φ s Q) NoE s := by
  obtain ⟨rfl, hk⟩ := builtin_is hn
  refine wpAny_Call_NameR (blt_name St hk hmem hv X R ?_)
  refine PyProof.Rows.callWith_builtin1 (evs_len H hA pos X R q fun φ₁ avs as h₁ s₁ st₁ R₁ X₁ ra hl q₁ => ?_) (he env) (H.tail.plain env pos)
  exact post_of_mono R st₁ (k φ₁ avs as h₁ s₁ st₁ R₁ ra hl q₁)

theorem call_typ (St : Stat hb φ₀) {n m : Str} {id : String} {np pos : Pos} {e : PySem.Expr} {es : List PySem.Expr} {ie : E} {ies : List E} (hn : isBuiltin cx n m = true) (hmem : m ∈ [nLen, nRange, nMin, nAbs, nInt, nSum, nEnum])
    (hv : ∀ mb, (hb.Ns builtinsNs mb ∧ mb nLen = some (.builtin "len") ∧ mb nRange = some (.type "range") ∧ mb nMin = some (.builtin "min") ∧ mb nAbs = some (.builtin "abs") ∧
    mb nInt = some (.type "int") ∧ mb nSum = some (.builtin "sum") ∧ mb nEnum = some (.type "enumerate")) → mb m = some (.type id))
    (H : SEs prog w hb φ₀ C d cx (e :: es) (ie :: ies)) (he : ∀ env, starEach (e :: es) env = (false, eval e env) :: starEach es env) (hA : AOk d A) (X : EnvOK hb cx env φ lo s.heap) (R : Rep hb φ₀ φ h s.heap) {K : List V → Hp → Prop} (q : wpEs C (ie :: ies) lo h K)
    {P : Value → Shared → Prop}
    (k : ∀ φ₁ avs as h₁ s₁, Step φ [] s s₁ φ₁ → Rep hb φ₀ φ₁ h₁ s₁.heap → EnvOK hb cx env φ₁ lo s₁.heap → RVs φ₁ avs as → K avs h₁ → wpAny (model prog w) A (call (.type id) as) P NoE s₁) :
    wpAny (model prog w) A (eval (.Call (.Name n np) (e :: es) [] pos) env) P NoE s := by
  obtain ⟨rfl, hk⟩ := builtin_is hn
  refine wpAny_Call_NameR (blt_name St hk hmem hv X R ?_)
  refine PyProof.Rows.callWith_type1 (evs H hA pos X R q fun φ₁ avs as h₁ s₁ st₁ R₁ X₁ ra q₁ => ?_) (he env) (H.tail.plain env pos)
  exact k φ₁ avs as h₁ s₁ st₁ R₁ X₁ ra q₁

theorem wpEs1 {ie : E} {K : V → Hp → Prop} (q : wpE C ie lo h K) : wpEs C [ie] lo h (fun vs h => ∃ v, vs = [v] ∧ K v h) ↔ wpE C ie lo h (fun v h => ∃ v', [v] = [v'] ∧ K v' h) := by
  simp only [qEs0, qEs1]

theorem rvs_one {φ : List Addr} {v : V} {as : List Value} (h : RVs φ [v] as) : ∃ a, as = [a] ∧ RV φ v a := by
  cases h with
  | cons h h' => cases h'; exact ⟨_, rfl, h⟩
theorem rvs_two {φ : List Addr} {v u : V} {as : List Value} (h : RVs φ [v, u] as) : ∃ a b, as = [a, b] ∧ RV φ v a ∧ RV φ u b := by
  cases h with
  | cons h h' => obtain ⟨b, rfl, hb⟩ := rvs_one h'; exact ⟨_, _, rfl, h, hb⟩
theorem rvs_three {φ : List Addr} {v u x : V} {as : List Value} (h : RVs φ [v, u, x] as) : ∃ a b c, as = [a, b, c] ∧ RV φ v a ∧ RV φ u b ∧ RV φ x c := by
  cases h with
  | cons h h' => obtain ⟨b, c, rfl, hb, hc⟩ := rvs_two h'; exact ⟨_, _, _, rfl, h, hb, hc⟩

theorem se_len (St : Stat hb φ₀) {n : Str} {np pos : Pos} {e : PySem.Expr} {ie : E} (hn : isBuiltin cx n nLen = true) (H : SE prog w hb φ₀ C d cx e ie) (he : ∀ env, starEach [e] env = [(false, eval e env)]) :
    SE prog w hb φ₀ C d cx (.Call (.Name n np) [e] [] pos) (.len ie) := by
  intro A env φ lo h s Q hA X R q
  simp only [qE0, qE1, qE2, qE3, qE4, qE5, qE6, qE7, qE8, qE9, qE10, qE11, qE12, qE13, qE14, qE15, qE16, qE17, qE18, qE19, qE20, qE21, qE22, qE23, qE24, qE25, qE26] at q
  refine call_blt (ies := []) (K := fun vs h => ∃ v, vs = [v] ∧ listP v h fun xs => Q (.int xs.length) h) St hn (by simp) (fun mb x => x.2.1) (.cons H he .nil) he hA X R ?_ fun φ₁ avs as h₁ s₁ st₁ R₁ ra hl q₁ => ?_
  · simp only [qEs0, qEs1, List.cons.injEq, and_true, exists_eq_left']; exact q
  · obtain ⟨v, rfl, q₂⟩ := q₁
    obtain ⟨a, rfl, rv⟩ := rvs_one ra
    obtain ⟨i, l, xs, ws, rfl, rfl, hi', hl', hx, hr, hL, q₃⟩ := rep_list R₁ rv q₂
    have hbig : big = 16777216 := rfl
    refine call_len_list hL (by rw [List.size_toArray, ← hr.len]; omega) ?_
    rw [List.size_toArray, ← hr.len]
    exact post_tok R₁ (RV.i _ _) q₃

theorem se_abs (St : Stat hb φ₀) {n : Str} {np pos : Pos} {e : PySem.Expr} {ie : E} (hn : isBuiltin cx n nAbs = true) (H : SE prog w hb φ₀ C d cx e ie) (he : ∀ env, starEach [e] env = [(false, eval e env)]) :
    SE prog w hb φ₀ C d cx (.Call (.Name n np) [e] [] pos) (.abs ie) := by
  intro A env φ lo h s Q hA X R q
  simp only [qE0, qE1, qE2, qE3, qE4, qE5, qE6, qE7, qE8, qE9, qE10, qE11, qE12, qE13, qE14, qE15, qE16, qE17, qE18, qE19, qE20, qE21, qE22, qE23, qE24, qE25, qE26] at q
  refine call_blt (ies := []) (K := fun vs h => ∃ v, vs = [v] ∧ intP v fun k => Q (.int k.natAbs) h) St hn (by simp) (fun mb x => x.2.2.2.2.1) (.cons H he .nil) he hA X R ?_ fun φ₁ avs as h₁ s₁ st₁ R₁ ra hl q₁ => ?_
  · simp only [qEs0, qEs1, List.cons.injEq, and_true, exists_eq_left']; exact q
  · obtain ⟨v, rfl, q₂⟩ := q₁
    obtain ⟨a, rfl, rv⟩ := rvs_one ra
    obtain ⟨k, t, rfl, rfl, q₃⟩ := rv_int rv q₂
    refine call_abs_int fun u tk => ?_
    have e : (if k < 0 then -k else k) = (k.natAbs : Int) := by omega
    rw [e]
    exact post_tok R₁ (RV.i _ _) q₃

theorem se_toI (St : Stat hb φ₀) {n : Str} {np pos : Pos} {e : PySem.Expr} {ie : E} (hn : isBuiltin cx n nInt = true) (H : SE prog w hb φ₀ C d cx e ie) (he : ∀ env, starEach [e] env = [(false, eval e env)]) :
    SE prog w hb φ₀ C d cx (.Call (.Name n np) [e] [] pos) (.toI ie) := by
  intro A env φ lo h s Q hA X R q
  simp only [qE0, qE1, qE2, qE3, qE4, qE5, qE6, qE7, qE8, qE9, qE10, qE11, qE12, qE13, qE14, qE15, qE16, qE17, qE18, qE19, qE20, qE21, qE22, qE23, qE24, qE25, qE26] at q
  refine call_typ (ies := []) (K := fun vs h => ∃ v, vs = [v] ∧ intP v fun k => Q (.int k) h) St hn (by simp) (fun mb x => x.2.2.2.2.2.1) (.cons H he .nil) he hA X R ?_ fun φ₁ avs as h₁ s₁ st₁ R₁ X₁ ra q₁ => ?_
  · simp only [qEs0, qEs1, List.cons.injEq, and_true, exists_eq_left']; exact q
  · obtain ⟨v, rfl, q₂⟩ := q₁
    obtain ⟨a, rfl, rv⟩ := rvs_one ra
    obtain ⟨k, t, rfl, rfl, q₃⟩ := rv_int rv q₂
    exact call_int_int ((post_same R₁ (RV.i _ _) q₃).trans R st₁)

theorem sum_items {φ : List Addr} {vs : List V} : ∀ {ws : List Value} {a : Int} {K : Int → Prop}, RVs φ vs ws → sumP vs a K → ∃ xs : List (Int × Tok), ws.toArray = intItems xs.toArray ∧ K (a + (xs.map (·.1)).sum) := by
  induction vs with
  | nil =>
    intro ws a K r q
    cases r
    exact ⟨[], by simp [intItems], by simpa [sumP] using q⟩
  | cons v vs ih =>
    intro ws a K r q
    cases r with
    | cons hv hr =>
      obtain ⟨x, rfl, q⟩ := intP_some (K := fun x => sumP vs (a + x) K) q
      obtain ⟨t, rfl⟩ := hv
      obtain ⟨xs, e, k⟩ := ih hr q
      refine ⟨(x, t) :: xs, ?_, ?_⟩
      · have e' := congrArg Array.toList e
        apply Array.ext'
        simpa [intItems] using e'
      · simpa [Int.add_assoc] using k

theorem se_sum (St : Stat hb φ₀) {n : Str} {np pos : Pos} {e : PySem.Expr} {ie : E} (hn : isBuiltin cx n nSum = true) (H : SE prog w hb φ₀ C d cx e ie) (he : ∀ env, starEach [e] env = [(false, eval e env)]) :
    SE prog w hb φ₀ C d cx (.Call (.Name n np) [e] [] pos) (.sum ie) := by
  intro A env φ lo h s Q hA X R q
  simp only [qE0, qE1, qE2, qE3, qE4, qE5, qE6, qE7, qE8, qE9, qE10, qE11, qE12, qE13, qE14, qE15, qE16, qE17, qE18, qE19, qE20, qE21, qE22, qE23, qE24, qE25, qE26] at q
  refine call_blt (ies := []) (K := fun vs h => ∃ v, vs = [v] ∧ listP v h fun xs => sumP xs 0 fun k => Q (.int k) h) St hn (by simp) (fun mb x => x.2.2.2.2.2.2.1) (.cons H he .nil) he hA X R ?_ fun φ₁ avs as h₁ s₁ st₁ R₁ ra hl q₁ => ?_
  · simp only [qEs0, qEs1, List.cons.injEq, and_true, exists_eq_left']; exact q
  · obtain ⟨v, rfl, q₂⟩ := q₁
    obtain ⟨a, rfl, rv⟩ := rvs_one ra
    obtain ⟨i, l, xs, ws, rfl, rfl, hi', hl', hx, hr, hL, q₃⟩ := rep_list R₁ rv q₂
    obtain ⟨ys, e, q₄⟩ := sum_items hr q₃
    rw [e] at hL
    refine sum_intListG hA.1 hL fun h' tk t' hk => ?_
    have e2 : preSum (numAt ys.toArray) ys.toArray.size = (ys.map (·.1)).sum := by
      rw [preSum_eq, List.take_of_length_le (by simp)]
    rw [e2]
    rw [Int.zero_add] at q₄
    exact post_keep R₁ hk (RV.i _ _) q₄

theorem se_min (St : Stat hb φ₀) {n : Str} {np pos : Pos} {e e' : PySem.Expr} {ie ie' : E} (hn : isBuiltin cx n nMin = true) (H : SE prog w hb φ₀ C d cx e ie) (H' : SE prog w hb φ₀ C d cx e' ie')
    (he : ∀ env, starEach [e, e'] env = (false, eval e env) :: starEach [e'] env) (he' : ∀ env, starEach [e'] env = [(false, eval e' env)]) :
    SE prog w hb φ₀ C d cx (.Call (.Name n np) [e, e'] [] pos) (.min ie ie') := by
  intro A env φ lo h s Q hA X R q
  simp only [qE0, qE1, qE2, qE3, qE4, qE5, qE6, qE7, qE8, qE9, qE10, qE11, qE12, qE13, qE14, qE15, qE16, qE17, qE18, qE19, qE20, qE21, qE22, qE23, qE24, qE25, qE26] at q
  refine call_blt (ies := [ie']) (K := fun vs h => ∃ v u, vs = [v, u] ∧ intP v fun a => intP u fun b => Q (.int (if b < a then b else a)) h) St hn (by simp) (fun mb x => x.2.2.2.1) (.cons H he (.cons H' he' .nil)) he hA X R ?_ fun φ₁ avs as h₁ s₁ st₁ R₁ ra hl q₁ => ?_
  · simp only [qEs0, qEs1]
    have e1 : (fun v h => wpE C ie' lo h fun v_1 h => ∃ v_2 u, [v, v_1] = [v_2, u] ∧ intP v_2 fun a => intP u fun b => Q (.int (if b < a then b else a)) h) = (fun a h => wpE C ie' lo h fun b h => intP a fun a => intP b fun b => Q (.int (if b < a then b else a)) h) := by
      funext v h
      congr 1
      funext u h
      refine propext ⟨?_, fun x => ⟨v, u, rfl, x⟩⟩
      rintro ⟨v', u', e, x⟩
      cases e; exact x
    rw [e1]; exact q
  · obtain ⟨v, u, rfl, q₂⟩ := q₁
    obtain ⟨a, b, rfl, rv, ru⟩ := rvs_two ra
    obtain ⟨k, t, rfl, rfl, q₃⟩ := rv_int rv q₂
    obtain ⟨k', t', rfl, rfl, q₄⟩ := rv_int ru q₃
    refine min_two_ints hA.1 fun h' tk hk => ?_
    by_cases hc : k' < k
    · rw [if_pos hc] at q₄ ⊢
      exact post_keep R₁ hk (RV.i _ _) q₄
    · rw [if_neg hc] at q₄ ⊢
      exact post_keep R₁ hk (RV.i _ _) q₄

theorem se_bits {o : PySem.Expr} {io : E} {ap p : Pos} (H : SE prog w hb φ₀ C d cx o io) (hbase : ∀ env, attributeBase o nBitLen env (eval o env) = eval o env) (hline : (ap.endLine == p.line) = true) :
    SE prog w hb φ₀ C d cx (.Call (.Attribute o nBitLen ap) [] [] p) (.bits io) := by
  intro A env φ lo h s Q hA X R q
  simp only [qE0, qE1, qE2, qE3, qE4, qE5, qE6, qE7, qE8, qE9, qE10, qE11, qE12, qE13, qE14, qE15, qE16, qE17, qE18, qE19, qE20, qE21, qE22, qE23, qE24, qE25, qE26] at q
  refine wpAny_Call_method0_late (hbase env) hline (ev1 H hA X R q fun φ₁ av a h₁ s₁ st₁ R₁ X₁ ra q₁ => ?_)
  obtain ⟨k, t, rfl, rfl, q₂⟩ := rv_int ra q₁
  refine ⟨"int", "int.bit_length", PySem.F.plainAttrs_int, PyProof.Rows.slot_int_bit_length, PyProof.Rows.type_int_bit_length, typeIs_int _ _ _, (by intro a e; cases e), ?_⟩
  exact PyProof.Rows.callWith_method0 (env := env) (call_int_bit_length ((post_tok R₁ (RV.i _ _) q₂).trans R st₁))

theorem se_call (St : Stat hb φ₀) (HC : SC prog w hb φ₀ C d) {n : Str} {np pos : Pos} {e : PySem.Expr} {es : List PySem.Expr} {f : E} {ie : E} {ies : List E} (hc : cName cx n = some f)
    (H : SEs prog w hb φ₀ C d cx (e :: es) (ie :: ies)) (he : ∀ env, starEach (e :: es) env = (false, eval e env) :: starEach es env) :
    SE prog w hb φ₀ C d cx (.Call (.Name n np) (e :: es) [] pos) (.call f (ie :: ies)) := by
  intro A env φ lo h s Q hA X R q
  simp only [qE0, qE1, qE2, qE3, qE4, qE5, qE6, qE7, qE8, qE9, qE10, qE11, qE12, qE13, qE14, qE15, qE16, qE17, qE18, qE19, qE20, qE21, qE22, qE23, qE24, qE25, qE26] at q
  refine wpAny_Call_NameR (ev1 (se_name St hc) hA X R q fun φ₁ av a h₁ s₁ st₁ R₁ X₁ ra q₁ => ?_)
  unfold fnP at q₁
  split at q₁
  · rename_i f
    obtain ⟨rfl, hf⟩ := ra
    obtain ⟨o, fd, ho, hd⟩ := St.fns f hf
    refine PyProof.Rows.callWith_def hd (evs H hA pos X₁ R₁ q₁ fun φ₂ avs as h₂ s₂ st₂ R₂ X₂ ras q₂ => ⟨R₂.stays _ _ ho, ?_⟩) (he env)
    exact post_of_mono R (st₁.trans st₂ R.five) (HC A f avs as φ₂ h₂ s₂ Q hA R₂ ras q₂)
  · exact q₁.elim
end
end Mine

set_option linter.unusedVariables false
set_option autoImplicit false
namespace Mine
open PySem PySem.Calls PyProof.Rows

section
variable {prog : Program} {w : World} {hb : Heap} {φ₀ φ : List Addr} {h : Hp} {s : Shared} {A : Around} {Q : KV} {C : Orc} {d : Nat} {cx : Cx} {lo : Lo} {env : Env}

theorem step_same {own' : List Addr} {a : Addr} {hh : Heap} {tk : Nat} (hs : Heap.SameBut a s.heap hh) (ha : a ∈ own') (hl : ∃ o, hh.get? a = some o) : Step φ own' s { s with heap := hh, toks := tk } φ :=
  ⟨⟨_, _, rfl⟩, ⟨[], by simp, by simp⟩, fun b o _ hb e => (hs.2 b (fun x => hb (x ▸ ha))).trans e, fun b o e => by
    by_cases hba : b = a
    · subst hba; exact hl
    · exact ⟨o, (hs.2 b hba).trans e⟩⟩

theorem rep_own {own' : List Addr} {hh : Heap} {tk : Nat} {a : Addr} (R : Rep hb φ₀ φ h s.heap) (hs : Heap.SameBut a s.heap hh) (ha : a ∉ φ) (hbn : hb.get? a = none) : Rep hb φ₀ φ h hh :=
  R.keep fun b o hb' e => (hs.2 b (by
    rintro rfl
    rcases hb' with h1 | h1
    · exact ha h1
    · rw [hbn] at h1; cases h1)).trans e

/-- a name is stored -/
theorem store_var {x : Str} {sl : Nat} {v : V} {wv : Value} (hc : cSlot cx x = some sl) (X : EnvOK hb cx env φ lo s.heap) (R : Rep hb φ₀ φ h s.heap) (hv : RV φ v wv) {P : Unit → Shared → Prop} {E' : Value → Shared → Prop}
    (k : ∀ a s₁, (a = env.locals ∨ (cx.names.lookup x = some .cell ∧ env.cells.lookup x = some a)) → Step φ [a] s s₁ φ → Rep hb φ₀ φ h s₁.heap → EnvOK hb cx env φ (upd lo sl v) s₁.heap → P () s₁) : wpAny (model prog w) A (storeName env x wv) P E' s := by
  have hup : ∀ y s' v', cx.vars.lookup y = some s' → cx.vars.lookup x = some sl → upd lo sl v s' = some v' → (y = x ∧ v' = v) ∨ (y ≠ x ∧ lo s' = some v') := by
    intro y s' v' hy hx hu
    by_cases e : s' = sl
    · subst e
      rw [upd_eq rfl] at hu
      exact .inl ⟨X.inj y x s' hy hx, (Option.some.inj hu).symm⟩
    · rw [upd_ne e] at hu
      exact .inr ⟨fun e' => e (by subst e'; rw [hx] at hy; exact (Option.some.inj hy).symm), hu⟩
  have hfresh : cx.vars.lookup x = some sl → ∀ k, 100 * (cx.lvl + 1) ≤ k → upd lo sl v k = none := by
    intro hx k hk
    have := X.lt x sl hx
    rw [upd_ne (by omega)]
    exact X.fresh k hk
  obtain ⟨hkk, hc⟩ := cSlot_some hc
  have hLφ := X.apart env.locals (List.mem_cons_self ..)
  have hLb := X.base env.locals (List.mem_cons_self ..)
  rcases hkk with hk | hk
  · obtain ⟨m, hn, hm⟩ := X.ns
    refine wpAny_storeName_local (X.nloc x hk) hn (fun h' hn' hs' => ?_) (by rw [X.kind]; rfl)
    have st : Step φ [env.locals] s { s with heap := h', toks := s.toks + 1 } φ := step_same hs' (List.mem_singleton_self _) (by obtain ⟨o, _, _, e, _⟩ := hn'; exact ⟨o, e⟩)
    refine k _ _ (.inl rfl) st (rep_own (own' := []) (tk := 0) R hs' hLφ hLb) { X with ns := ?_, cel := ?_, live := ?_, fresh := hfresh hc }
    · refine ⟨_, hn', fun y s' v' hy hs hu => ?_⟩
      rcases hup y s' v' hs hc hu with ⟨rfl, rfl⟩ | ⟨hne, hu⟩
      · exact ⟨wv, by simp, hv⟩
      · obtain ⟨w', e, rv⟩ := hm y s' v' hy hs hu
        exact ⟨w', by rw [if_neg hne]; exact e, rv⟩
    · intro y s' hy hs
      obtain ⟨c, o, hc', ho, hv'⟩ := X.cel y s' hy hs
      refine ⟨c, o, hc', ho.sameBut hs' (X.ncl y c hc'), fun v' hu => ?_⟩
      rcases hup y s' v' hs hc hu with ⟨rfl, rfl⟩ | ⟨hne, hu⟩
      · rw [hk] at hy; simp at hy
      · exact hv' v' hu
    · intro a ha
      obtain ⟨o, ho⟩ := X.live a ha
      exact st.live a o ho
  · obtain ⟨c, o, hc', ho, hv'⟩ := X.cel x sl (.inl hk) hc
    have hmem : c ∈ own env := List.mem_cons_of_mem _ (List.mem_map.mpr ⟨(x, c), mem_of_lookup hc', rfl⟩)
    refine wpAny_storeName_cell X.kind (X.ncel x hk) hc' ho fun h' ho' hs' => ?_
    have st : Step φ [c] s { s with heap := h' } φ := step_same (tk := s.toks) hs' (List.mem_singleton_self _) (by obtain ⟨o, e, _⟩ := ho'; exact ⟨o, e⟩)
    refine k _ _ (.inr ⟨hk, hc'⟩) st (rep_own (own' := []) (tk := 0) R hs' (X.apart c hmem) (X.base c hmem)) { X with ns := ?_, cel := ?_, live := ?_, fresh := hfresh hc }
    · obtain ⟨m, hn, hm⟩ := X.ns
      refine ⟨m, hn.sameBut hs' (Ne.symm (X.ncl x c hc')), fun y s' v' hy hs hu => ?_⟩
      rcases hup y s' v' hs hc hu with ⟨rfl, rfl⟩ | ⟨hne, hu⟩
      · rw [hk] at hy; cases hy
      · exact hm y s' v' hy hs hu
    · intro y s' hy hs
      by_cases hyx : y = x
      · subst hyx
        rw [hs] at hc; cases hc
        refine ⟨c, some wv, hc', ho', fun v' hu => ?_⟩
        rcases hup y _ v' hs hs hu with ⟨_, rfl⟩ | ⟨hne, _⟩
        · exact ⟨wv, rfl, hv⟩
        · exact absurd rfl hne
      · obtain ⟨c₂, o₂, hc₂, ho₂, hv₂⟩ := X.cel y s' hy hs
        refine ⟨c₂, o₂, hc₂, ho₂.sameBut hs' (fun e => hyx (X.cinj y x c₂ hc₂ (e ▸ hc'))), fun v' hu => ?_⟩
        rcases hup y s' v' hs hc hu with ⟨rfl, rfl⟩ | ⟨hne, hu⟩
        · exact absurd rfl hyx
        · exact hv₂ v' hu
    · intro a ha
      obtain ⟨o, ho⟩ := X.live a ha
      exact st.live a o ho
end
end Mine

set_option linter.unusedVariables false
set_option autoImplicit false
namespace Mine
open PySem PySem.Calls PyProof.Rows

/-! ## the block of a comprehension -/
theorem lookup_mem_kind {names : List (Str × NameKind)} {x : Str} {k : NameKind} (h : names.lookup x = some k) : (x, k) ∈ names := mem_of_lookup h
theorem lookup_of_mem : ∀ {names : List (Str × NameKind)}, (names.map (·.1)).Nodup → ∀ {x : Str} {k : NameKind}, (x, k) ∈ names → names.lookup x = some k
  | (y, j) :: r, hn, x, k, hm => by
    rw [List.map_cons, List.nodup_cons] at hn
    rw [List.lookup_cons]
    rcases List.mem_cons.mp hm with e | hm2
    · cases e; simp
    · have : (x == y) = false := by
        rw [beq_eq_false_iff_ne]
        intro e
        exact hn.1 (List.mem_map.mpr ⟨(x, k), hm2, e⟩)
      rw [this]
      exact lookup_of_mem hn.2 hm2

noncomputable def closeOf (cells : List (Str × Addr)) : List (Str × NameKind) → List (Str × Addr) → List (Str × Addr)
  | [], acc => acc
  | (n, k) :: r, acc => if k == .free then (match cells.lookup n with
      | some c => closeOf cells r ((n, c) :: acc)
      | none => closeOf cells r acc) else closeOf cells r acc

theorem forIn_close (env : Env) (f : Str × NameKind → List (Str × Addr) → Sem (ForInStep (List (Str × Addr))))
    (hf : ∀ n k cs, f (n, k) cs = if k == .free then (do let c ← cellOf env n; pure (.yield ((n, c) :: cs))) else pure (.yield cs)) :
    ∀ (names : List (Str × NameKind)) (acc : List (Str × Addr)), (∀ n, (n, NameKind.free) ∈ names → ∃ c, env.cells.lookup n = some c) → forIn names acc f = pure (closeOf env.cells names acc)
  | [], acc, _ => rfl
  | (n, k) :: r, acc, hc => by
    rw [List.forIn_cons, hf]
    unfold closeOf
    have ih := fun a => forIn_close env f hf r a fun n hn => hc n (List.mem_cons_of_mem _ hn)
    by_cases hk : (k == NameKind.free) = true
    · rw [if_pos hk, if_pos hk]
      have hk' : k = .free := by simpa using hk
      subst hk'
      obtain ⟨c, e⟩ := hc n (List.mem_cons_self ..)
      rw [e]
      unfold cellOf
      rw [e]
      exact ih _
    · rw [if_neg hk, if_neg hk]
      exact ih _

theorem closureFor_eq (scope : Scope) (env : Env) (hc : ∀ n, (n, NameKind.free) ∈ scope.names → ∃ c, env.cells.lookup n = some c) : closureFor scope env = pure (closeOf env.cells scope.names []) := by
  unfold closureFor
  show (forIn scope.names [] _ >>= fun cs => pure cs) = _
  rw [forIn_close env _ (fun n k cs => by cases hk : k == NameKind.free <;> simp [hk]) scope.names [] hc]
  rfl

theorem closeOf_sub (cells : List (Str × Addr)) : ∀ (names : List (Str × NameKind)) (acc : List (Str × Addr)), (∀ p ∈ acc, cells.lookup p.1 = some p.2) → ∀ p ∈ closeOf cells names acc, cells.lookup p.1 = some p.2
  | [], acc, h, p, hp => h p hp
  | (n, k) :: r, acc, h, p, hp => by
    unfold closeOf at hp
    split at hp
    · split at hp
      · rename_i c e
        refine closeOf_sub cells r _ (fun q hq => ?_) p hp
        rcases List.mem_cons.mp hq with rfl | hq
        · exact e
        · exact h q hq
      · exact closeOf_sub cells r acc h p hp
    · exact closeOf_sub cells r acc h p hp
theorem closeOf_keep (cells : List (Str × Addr)) : ∀ (names : List (Str × NameKind)) (acc : List (Str × Addr)) (x : Str), (acc.lookup x).isSome = true → ((closeOf cells names acc).lookup x).isSome = true
  | [], acc, x, h => h
  | (n, k) :: r, acc, x, h => by
    unfold closeOf
    split
    · split
      · refine closeOf_keep cells r _ x ?_
        rw [List.lookup_cons]
        split
        · rfl
        · exact h
      · exact closeOf_keep cells r acc x h
    · exact closeOf_keep cells r acc x h
theorem closeOf_has (cells : List (Str × Addr)) : ∀ (names : List (Str × NameKind)) (acc : List (Str × Addr)) (x : Str), (x, NameKind.free) ∈ names → (cells.lookup x).isSome = true → ((closeOf cells names acc).lookup x).isSome = true
  | (n, k) :: r, acc, x, hm, h => by
    unfold closeOf
    rcases List.mem_cons.mp hm with e | hm
    · cases e
      rw [if_pos (by rfl)]
      obtain ⟨c, e⟩ := Option.isSome_iff_exists.mp h
      rw [e]
      exact closeOf_keep cells r _ _ (by simp)
    · split
      · split
        · exact closeOf_has cells r _ x hm h
        · exact closeOf_has cells r _ x hm h
      · exact closeOf_has cells r _ x hm h
theorem closeOf_lookup (cells : List (Str × Addr)) (names : List (Str × NameKind)) {x : Str} {c : Addr} (hm : (x, NameKind.free) ∈ names) (h : cells.lookup x = some c) : (closeOf cells names []).lookup x = some c := by
  have := closeOf_has cells names [] x hm (by rw [h]; rfl)
  obtain ⟨c', e⟩ := Option.isSome_iff_exists.mp this
  have := closeOf_sub cells names [] (by simp) (x, c') (mem_of_lookup e)
  rw [h] at this; cases this
  exact e

theorem cellsFrom_app : ∀ (names : List (Str × NameKind)) (n : Nat) (acc : List (Str × Addr)), cellsFrom n names acc = cellsFrom n names [] ++ acc
  | [], n, acc => rfl
  | (x, k) :: r, n, acc => by
    unfold cellsFrom
    split
    · rw [cellsFrom_app r (n + 1) ((x, n) :: acc), cellsFrom_app r (n + 1) [(x, n)]]; simp
    · exact cellsFrom_app r n acc
theorem cellsFrom_names : ∀ (names : List (Str × NameKind)) (n : Nat) (p : Str × Addr), p ∈ cellsFrom n names [] → (p.1, NameKind.cell) ∈ names
  | [], n, p, h => by simp [cellsFrom] at h
  | (x, k) :: r, n, p, h => by
    unfold cellsFrom at h
    split at h
    · rename_i hk
      rw [cellsFrom_app] at h
      rcases List.mem_append.mp h with h | h
      · exact List.mem_cons_of_mem _ (cellsFrom_names r _ p h)
      · rw [List.mem_singleton] at h; subst h
        have : k = .cell := by simpa using hk
        subst this; exact List.mem_cons_self ..
    · exact List.mem_cons_of_mem _ (cellsFrom_names r _ p h)
theorem cellsFrom_has : ∀ (names : List (Str × NameKind)) (n : Nat) (x : Str), (x, NameKind.cell) ∈ names → ((cellsFrom n names []).lookup x).isSome = true
  | (y, k) :: r, n, x, h => by
    unfold cellsFrom
    have app : ∀ (l m : List (Str × Addr)), ((l ++ m).lookup x).isSome = ((l.lookup x).isSome || (m.lookup x).isSome) := by
      intro l m
      induction l with
      | nil => simp
      | cons a l ih =>
        obtain ⟨a1, a2⟩ := a
        rw [List.cons_append, List.lookup_cons, List.lookup_cons]
        cases hx : x == a1 <;> simp [ih]
    rcases List.mem_cons.mp h with e | h
    · cases e
      rw [if_pos (by rfl), cellsFrom_app, app]
      simp [List.lookup_cons]
    · split
      · rw [cellsFrom_app, app, cellsFrom_has r _ x h]; rfl
      · exact cellsFrom_has r n x h
theorem lookup_append_none {α : Type} {l m : List (Str × α)} {x : Str} (h : l.lookup x = none) : (l ++ m).lookup x = m.lookup x := by
  induction l with
  | nil => rfl
  | cons a l ih =>
    obtain ⟨a1, a2⟩ := a
    rw [List.lookup_cons] at h
    rw [List.cons_append, List.lookup_cons]
    cases hx : x == a1 with
    | true => rw [hx] at h; cases h
    | false => rw [hx] at h; exact ih h
theorem lookup_append_some {α : Type} {l m : List (Str × α)} {x : Str} {c : α} (h : l.lookup x = some c) : (l ++ m).lookup x = some c := by
  induction l with
  | nil => simp at h
  | cons a l ih =>
    obtain ⟨a1, a2⟩ := a
    rw [List.lookup_cons] at h
    rw [List.cons_append, List.lookup_cons]
    cases hx : x == a1 with
    | true => rw [hx] at h; exact h
    | false => rw [hx] at h; exact ih h

theorem lookup_relabel (scope : Scope) (env : Env) (x : Str) : (relabel scope env).names.lookup x = (scope.names.lookup x).map fun k => if (k == .free && env.scope.kind == .function && env.kindOf x == some .cell) then .cell else k := by
  unfold relabel
  dsimp only
  induction scope.names with
  | nil => rfl
  | cons a l ih =>
    obtain ⟨n, k⟩ := a
    rw [List.map_cons]
    by_cases hx : x = n
    · subst hx
      by_cases hc : (k == .free && env.scope.kind == .function && env.kindOf x == some .cell) = true
      · simp only [if_pos hc, List.lookup_cons, beq_self_eq_true, Option.map_some]
      · simp only [if_neg hc, List.lookup_cons, beq_self_eq_true, Option.map_some]
    · have hb : (x == n) = false := beq_eq_false_iff_ne.mpr hx
      by_cases hc : (k == .free && env.scope.kind == .function && env.kindOf n == some .cell) = true
      · simp only [if_pos hc, List.lookup_cons, hb]; exact ih
      · simp only [if_neg hc, List.lookup_cons, hb]; exact ih

section
variable {prog : Program} {w : World} {hb : Heap} {φ₀ φ : List Addr} {h : Hp} {s : Shared} {A : Around} {Q : KV} {C : Orc} {d : Nat} {cx : Cx} {lo : Lo} {env : Env}

noncomputable def compCells (C : Addr) (scope : Scope) (env : Env) : List (Str × Addr) := cellsFrom (C + 1) scope.names [] ++ closeOf env.cells scope.names []
noncomputable def compE (C : Addr) (scope : Scope) (env : Env) : Env :=
  { newEnv scope C env.globals (compCells C scope env) env.qual none .none (some env) builtinsNs with scope := relabel scope env }

theorem wp_compEnv {M : Model} {scope : Scope} {cl : List (Str × Addr)} {E' : Value → Shared → Prop} {P : Env → Shared → Prop} (hcl : cl = closeOf env.cells scope.names [])
    (hP : P (newEnv scope s.heap.objs.size env.globals (compCells s.heap.objs.size scope env) env.qual none .none (some env) builtinsNs) { s with heap := pushCells (s.heap.push { cls := .type "dict", data := .dict #[] }) scope.names }) :
    wpAny M A (newFunctionEnv scope env.globals cl [] env.qual none .none (some env)) P E' s := by
  simp only [newFunctionEnv, Option.isSome_some, if_true]
  refine wpAny_bind (wpAny_alloc ?_)
  refine wpAny_bind (wpAny_layCells _ (fun name kind cells => by cases hkc : kind == NameKind.cell <;> simp [hkc]) _ _ _ _ ?_)
  rw [show ({ s with heap := s.heap.push { cls := .type "dict", data := .dict #[] } } : Shared).heap.objs.size = s.heap.objs.size + 1 from Heap.size_push ..]
  rw [cellsFrom_app, hcl]
  refine wpAny_bind ?_
  rw [List.forIn_nil]
  exact wpAny_pure (wpAny_pure hP)
end
end Mine

set_option linter.unusedVariables false
set_option autoImplicit false
namespace Mine
open PySem PySem.Calls PyProof.Rows

section
variable {prog : Program} {w : World} {hb : Heap} {φ₀ φ : List Addr} {h : Hp} {s : Shared} {A : Around} {Q : KV} {C : Orc} {d : Nat} {cx : Cx} {lo : Lo} {env : Env}

theorem EnvOK.keeps {hh hh' : Heap} (X : EnvOK hb cx env φ lo hh) (k : ∀ b o, hh.get? b = some o → hh'.get? b = some o) : EnvOK hb cx env φ lo hh' :=
  { X with
    ns := by
      obtain ⟨m, hn, hm⟩ := X.ns
      exact ⟨m, hn.keeps k, hm⟩
    cel := fun x s a b => by
      obtain ⟨c, o, h1, h2, h3⟩ := X.cel x s a b
      exact ⟨c, o, h1, h2.keeps k, h3⟩
    live := fun a ha => by
      obtain ⟨o, e⟩ := X.live a ha
      exact ⟨o, k a o e⟩ }

theorem cells_of_comp {Ca : Addr} {scope : Scope} {x : Str} {c : Addr} (hc : (compCells Ca scope env).lookup x = some c) :
    ((x, c) ∈ cellsFrom (Ca + 1) scope.names []) ∨ ((cellsFrom (Ca + 1) scope.names []).lookup x = none ∧ env.cells.lookup x = some c) := by
  unfold compCells at hc
  cases e : (cellsFrom (Ca + 1) scope.names []).lookup x with
  | some c' =>
    rw [lookup_append_some e] at hc; cases hc
    exact .inl (mem_of_lookup e)
  | none =>
    rw [lookup_append_none e] at hc
    exact .inr ⟨rfl, closeOf_sub env.cells scope.names [] (by simp) (x, c) (mem_of_lookup hc)⟩

theorem compEnvOK {sc : Scope} {hh : Heap} (hs : scopeOk cx sc = true) (X : EnvOK hb cx env φ lo hh) (R : Rep hb φ₀ φ h hh) :
    EnvOK hb (cx.inner sc) (compE hh.objs.size sc env) φ lo (pushCells (hh.push { cls := .type "dict", data := .dict #[] }) sc.names) ∧
      (∀ a ∈ own (compE hh.objs.size sc env), hh.get? a = none ∨ a ∈ own env) ∧ ∀ a ∈ own (compE hh.objs.size sc env), a = hh.objs.size ∨ hh.objs.size < a ∨ a ∈ own env := by
  simp only [scopeOk, Bool.and_eq_true] at hs
  obtain ⟨⟨⟨⟨hkd, hno⟩, hvo⟩, hloc⟩, hfre⟩ := hs
  have hkd : sc.kind = .function := by simpa using hkd
  simp only [namesOk, Bool.and_eq_true, decide_eq_true_eq, List.all_eq_true, Bool.not_eq_true'] at hno
  obtain ⟨hnd, hnb⟩ := hno
  simp only [varsOk, Bool.and_eq_true, decide_eq_true_eq, List.all_eq_true] at hvo
  obtain ⟨hvd, hvl⟩ := hvo
  simp only [List.all_eq_true] at hloc hfre
  have kp : ∀ b o, hh.get? b = some o → (pushCells (hh.push { cls := .type "dict", data := .dict #[] }) sc.names).get? b = some o := fun b o e =>
    pushCells_keeps _ _ b o (Heap.get?_push_of_some _ e)
  have ok := cellsFrom_ok sc.names (hh.push { cls := .type "dict", data := .dict #[] }) (hh.objs.size + 1) [] ⟨fun _ _ hm => (nomatch hm), List.Pairwise.nil⟩ (by rw [Heap.size_push]; exact Nat.le_refl _)
  rw [Heap.size_push] at ok
  have hns : (pushCells (hh.push { cls := .type "dict", data := .dict #[] }) sc.names).Ns hh.objs.size fun _ => none := (Heap.Ns.new hh (.type "dict")).keeps (pushCells_keeps _ _)
  have fr : ∀ a, hh.objs.size ≤ a → hh.get? a = none := fun a ha => by
    cases e : hh.get? a with
    | none => rfl
    | some o => exact absurd (Heap.lt_size e) (Nat.not_lt.mpr ha)
  have nφ : ∀ a, hh.objs.size ≤ a → a ∉ φ := fun a ha hm => by
    obtain ⟨o, e⟩ := R.live hm
    rw [fr a ha] at e; cases e
  have locSlot : ∀ x sl, ((cx.inner sc).names.lookup x = some .local ∨ (cx.inner sc).names.lookup x = some .cell) → (cx.inner sc).vars.lookup x = some sl → lo sl = none := by
    intro x sl hk hv
    have h1 : ∃ k, (x, k) ∈ sc.names ∧ (k = .local ∨ k = .cell) := by
      rcases hk with hk | hk
      · exact ⟨_, mem_of_lookup hk, .inl rfl⟩
      · exact ⟨_, mem_of_lookup hk, .inr rfl⟩
    obtain ⟨k, hm, hk2⟩ := h1
    have h2 := hloc (x, k) hm
    dsimp only at h2
    rw [hv] at h2
    refine X.fresh sl ?_
    rcases hk2 with rfl | rfl <;> simpa using h2
  have freeFact : ∀ x, (x, NameKind.free) ∈ sc.names → (cx.names.lookup x = some .cell ∨ cx.names.lookup x = some .free) ∧ (∃ sl, cx.vars.lookup x = some sl ∧ (cx.inner sc).vars.lookup x = some sl) := by
    intro x hm
    have h2 := hfre (x, .free) hm
    simp only [bne_self_eq_false, Bool.false_or, Bool.and_eq_true, Bool.or_eq_true, beq_iff_eq] at h2
    obtain ⟨⟨h3, h4⟩, h5⟩ := h2
    obtain ⟨sl, e⟩ := Option.isSome_iff_exists.mp h4
    exact ⟨h3, sl, e, by rw [h5, e]⟩
  have cellFact : ∀ x, (x, NameKind.free) ∈ sc.names → ∃ c, env.cells.lookup x = some c := fun x hm => by
    obtain ⟨h3, sl, e, _⟩ := freeFact x hm
    obtain ⟨c, o, hc, _⟩ := X.cel x sl h3 e
    exact ⟨c, hc⟩
  have ownC : ∀ a ∈ own (compE hh.objs.size sc env), a = hh.objs.size ∨ (∃ n, (n, a) ∈ cellsFrom (hh.objs.size + 1) sc.names []) ∨ ∃ n, env.cells.lookup n = some a := by
    intro a ha
    rcases List.mem_cons.mp ha with e | ha
    · exact .inl e
    · obtain ⟨p, hp, rfl⟩ := List.mem_map.mp ha
      rcases List.mem_append.mp hp with hp | hp
      · exact .inr (.inl ⟨p.1, hp⟩)
      · exact .inr (.inr ⟨p.1, closeOf_sub env.cells sc.names [] (by simp) p hp⟩)
  have ownEnv : ∀ n a, env.cells.lookup n = some a → a ∈ own env := fun n a e => List.mem_cons_of_mem _ (List.mem_map.mpr ⟨(n, a), mem_of_lookup e, rfl⟩)
  have newGe : ∀ n a, (n, a) ∈ cellsFrom (hh.objs.size + 1) sc.names [] → hh.objs.size < a := fun n a hm => (ok.empty n a hm).2
  refine ⟨{ kind := hkd, glb := X.glb, blt := X.blt, gl := X.gl, nglob := ?_, nloc := ?_, ncel := ?_, nfre := ?_, nobug := ?_, ns := ?_, cel := ?_, inj := ?_, apart := ?_, live := ?_, ncl := ?_, cinj := ?_, base := ?_, fresh := ?_, lt := ?_ }, ?_, ?_⟩
  · intro x hx
    show (relabel sc env).names.lookup x = _
    rw [lookup_relabel, show sc.names.lookup x = some .globalImplicit from hx]; rfl
  · intro x hx
    show (relabel sc env).names.lookup x = _
    rw [lookup_relabel, show sc.names.lookup x = some .local from hx]; rfl
  · intro x hx
    show (relabel sc env).names.lookup x = _
    rw [lookup_relabel, show sc.names.lookup x = some .cell from hx]; rfl
  · intro x hx
    show (relabel sc env).names.lookup x = _ ∨ (relabel sc env).names.lookup x = _
    rw [lookup_relabel, show sc.names.lookup x = some .free from hx, Option.map_some]
    split
    · exact .inl rfl
    · exact .inr rfl
  · intro x hx
    obtain ⟨k, e⟩ := Option.isSome_iff_exists.mp hx
    exact hnb (x, k) (mem_of_lookup e)
  · refine ⟨_, hns, fun x sl v hk hv hl => ?_⟩
    rw [locSlot x sl (.inl hk) hv] at hl; cases hl
  · intro x sl hk hv
    show ∃ c o, (compCells hh.objs.size sc env).lookup x = some c ∧ _
    rcases hk with hk | hk
    · obtain ⟨c, e⟩ := Option.isSome_iff_exists.mp (cellsFrom_has sc.names (hh.objs.size + 1) x (mem_of_lookup hk))
      refine ⟨c, none, lookup_append_some e, (ok.empty x c (mem_of_lookup e)).1, fun v hl => ?_⟩
      rw [locSlot x sl (.inr hk) hv] at hl; cases hl
    · have hm : (x, NameKind.free) ∈ sc.names := mem_of_lookup hk
      obtain ⟨h3, sl', e, e'⟩ := freeFact x hm
      rw [hv] at e'; cases e'
      obtain ⟨c, o, hc, ho, hval⟩ := X.cel x sl h3 e
      have hn : (cellsFrom (hh.objs.size + 1) sc.names []).lookup x = none := by
        cases q : (cellsFrom (hh.objs.size + 1) sc.names []).lookup x with
        | none => rfl
        | some c' =>
          have := lookup_of_mem hnd (cellsFrom_names sc.names _ _ (mem_of_lookup q))
          rw [lookup_of_mem hnd hm] at this; cases this
      exact ⟨c, o, by unfold compCells; rw [lookup_append_none hn]; exact closeOf_lookup env.cells sc.names hm hc, ho.keeps kp, hval⟩
  · intro x y sl hx hy
    have hx' := mem_of_lookup hx
    have hy' := mem_of_lookup hy
    have inj : ∀ (l : List (Str × Nat)), (l.map (·.2)).Nodup → ∀ {x y : Str} {s : Nat}, (x, s) ∈ l → (y, s) ∈ l → x = y := by
      intro l
      induction l with
      | nil => intro _ x y s h; cases h
      | cons a r ih =>
        intro hd x y s h1 h2
        rw [List.map_cons, List.nodup_cons] at hd
        rcases List.mem_cons.mp h1 with e1 | h1 <;> rcases List.mem_cons.mp h2 with e2 | h2
        · rw [← e1] at e2; exact (Prod.mk.inj e2).1.symm
        · exact absurd (List.mem_map.mpr ⟨(y, s), h2, by rw [← e1]⟩) hd.1
        · exact absurd (List.mem_map.mpr ⟨(x, s), h1, by rw [← e2]⟩) hd.1
        · exact ih hd.2 h1 h2
    exact inj _ hvd hx' hy'
  · intro a ha
    rcases ownC a ha with rfl | ⟨n, hm⟩ | ⟨n, e⟩
    · exact nφ _ (Nat.le_refl _)
    · exact nφ _ (Nat.le_of_lt (newGe n a hm))
    · exact X.apart a (ownEnv n a e)
  · intro a ha
    rcases ownC a ha with rfl | ⟨n, hm⟩ | ⟨n, e⟩
    · obtain ⟨o, _, _, e, _⟩ := hns; exact ⟨o, e⟩
    · obtain ⟨o, e, _⟩ := (ok.empty n a hm).1; exact ⟨o, e⟩
    · obtain ⟨o, e'⟩ := X.live a (ownEnv n a e); exact ⟨o, kp a o e'⟩
  · intro x c hc
    show c ≠ hh.objs.size
    rcases cells_of_comp hc with hm | ⟨_, e⟩
    · exact Nat.ne_of_gt (newGe x c hm)
    · obtain ⟨o, e'⟩ := X.live c (ownEnv x c e)
      exact Nat.ne_of_lt (Heap.lt_size e')
  · intro x y c hx hy
    rcases cells_of_comp hx with hm | ⟨_, e⟩ <;> rcases cells_of_comp hy with hm' | ⟨_, e'⟩
    · exact name_of_addr ok.apart hm hm'
    · obtain ⟨o, e2⟩ := X.live c (ownEnv y c e')
      exact absurd (newGe x c hm) (Nat.not_lt.mpr (Nat.le_of_lt (Heap.lt_size e2)))
    · obtain ⟨o, e2⟩ := X.live c (ownEnv x c e)
      exact absurd (newGe y c hm') (Nat.not_lt.mpr (Nat.le_of_lt (Heap.lt_size e2)))
    · exact X.cinj x y c e e'
  · intro a ha
    rcases ownC a ha with rfl | ⟨n, hm⟩ | ⟨n, e⟩
    · exact R.fresh (fr _ (Nat.le_refl _))
    · exact R.fresh (fr _ (Nat.le_of_lt (newGe n a hm)))
    · exact X.base a (ownEnv n a e)
  · intro k hk
    refine X.fresh k ?_
    have : (cx.inner sc).lvl = cx.lvl + 1 := rfl
    omega
  · intro x sl hv
    exact hvl (x, sl) (mem_of_lookup hv)
  · intro a ha
    rcases ownC a ha with rfl | ⟨n, hm⟩ | ⟨n, e⟩
    · exact .inl (fr _ (Nat.le_refl _))
    · exact .inl (fr _ (Nat.le_of_lt (newGe n a hm)))
    · exact .inr (ownEnv n a e)
  · intro a ha
    rcases ownC a ha with rfl | ⟨n, hm⟩ | ⟨n, e⟩
    · exact .inl rfl
    · exact .inr (.inl (newGe n a hm))
    · exact .inr (.inr (ownEnv n a e))

/-! ## what a loop walks -/
structure Itr (prog : Program) (w : World) (A : Around) (hb : Heap) (φ₀ φb : List Addr) (I : Addr) (items : List V) (chk : Hp → Prop) (at_ : Nat → Heap → Prop) : Prop where
  frame : ∀ k hh hh', at_ k hh → (∀ o, hh.get? I = some o → hh'.get? I = some o) → at_ k hh'
  live : ∀ k hh, at_ k hh → ∃ o, hh.get? I = some o ∧ o.cls ≠ .type "list" ∧ o.cls ≠ .type "tuple"
  item : ∀ (k : Nat) (t : List Addr) (h : Hp) (s : Shared) (v : V) (P : Option Value → Shared → Prop), items[k]? = some v → Rep hb φ₀ (φb ++ t) h s.heap → chk h → at_ k s.heap →
    (∀ wv hh tk, RV (φb ++ t) v wv → at_ (k + 1) hh → (∀ b o, b ≠ I → s.heap.get? b = some o → hh.get? b = some o) → P (some wv) { s with heap := hh, toks := tk }) → wpAny (model prog w) A (pyNext (.ref I)) P NoE s
  done : ∀ (t : List Addr) (h : Hp) (s : Shared) (P : Option Value → Shared → Prop), Rep hb φ₀ (φb ++ t) h s.heap → chk h → at_ items.length s.heap →
    (∀ hh tk, (∀ b o, b ≠ I → s.heap.get? b = some o → hh.get? b = some o) → P none { s with heap := hh, toks := tk }) → wpAny (model prog w) A (pyNext (.ref I)) P NoE s
  self : ∀ (k : Nat) (s : Shared) (P : Value → Shared → Prop), at_ k s.heap → P (.ref I) s → wpAny (model prog w) A (pyIter (.ref I)) P NoE s

theorem Itr.off {φb : List Addr} {I : Addr} {items : List V} {chk : Hp → Prop} {at_ : Nat → Heap → Prop} (it : Itr prog w A hb φ₀ φb I items chk at_) {k : Nat} {hh : Heap} {φ : List Addr} (hat : at_ k hh) (R : Rep hb φ₀ φ h hh) : I ∉ φ := by
  intro hm
  obtain ⟨i, hi⟩ := List.getElem?_of_mem hm
  have hl := (List.getElem?_eq_some_iff.mp hi).1
  rw [R.len] at hl
  obtain ⟨a', ha', r⟩ := R.obj i h[i] (by simp [hl])
  rw [hi] at ha'; cases ha'
  obtain ⟨o, ho, h1, h2⟩ := it.live k hh hat
  generalize h[i] = ob at r
  cases ob with
  | L xs => obtain ⟨ws, _, _, o', e, hc, _⟩ := r; rw [ho] at e; cases e; exact h1 hc
  | T xs => obtain ⟨ws, _, _, o', e, hc, _⟩ := r; rw [ho] at e; cases e; exact h2 hc

theorem itr_list {φb : List Addr} {I l : Addr} {i : Nat} {xs : List V} (hh : A.handled = none) (hl : φb[i]? = some l) :
    Itr prog w A hb φ₀ φb I xs (isListAt (.ref i) xs) (fun k hp => hp.IsListIter I l k) where
  frame := fun k a b x e => x.at e
  live := fun k a x => by obtain ⟨o, e, hc, _⟩ := x; exact ⟨o, e, by rw [hc]; decide, by rw [hc]; decide⟩
  item := fun k t h s v P hv R hc hat hP => by
    have hc : h[i]? = some (.L xs) := hc
    obtain ⟨a, ha, ws, _, hr, hL⟩ := R.obj _ _ hc
    rw [List.getElem?_append_left (List.getElem?_eq_some_iff.mp hl).1, hl] at ha; cases ha
    obtain ⟨wv, hw, rv⟩ := hr.get k v hv
    exact wpAny_pyNext_list_item hat hL (by simpa using hw) fun h' hit' hs' => hP wv h' s.toks rv hit' fun b o hb e => (hs'.2 b hb).trans e
  done := fun t h s P R hc hat hP => by
    have hc : h[i]? = some (.L xs) := hc
    obtain ⟨a, ha, ws, _, hr, hL⟩ := R.obj _ _ hc
    rw [List.getElem?_append_left (List.getElem?_eq_some_iff.mp hl).1, hl] at ha; cases ha
    have hlen := hr.len
    exact wpAny_pyNext_list_end hh hat hL (by simp [hlen]) fun h' he => hP h' s.toks fun b o hb e => he b o hb e
  self := fun k s P hat hP => wpAny_pyIter_listiter hat hP

theorem rangeL_len (st : Int) : ∀ (n : Nat) (a : Int), (rangeL a st n).length = n
  | 0, _ => rfl
  | n + 1, a => by simp [rangeL, rangeL_len st n]
theorem rangeL_get (st : Int) : ∀ (n : Nat) (a : Int) (k : Nat) (v : Int), (rangeL a st n)[k]? = some v → v = a + k * st
  | 0, _, k, v, h => by simp [rangeL] at h
  | n + 1, a, 0, v, h => by simp [rangeL] at h; simp [h]
  | n + 1, a, k + 1, v, h => by
    simp only [rangeL, List.getElem?_cons_succ] at h
    have := rangeL_get st n (a + st) k v h
    rw [this]; push_cast; rw [Int.add_mul]; omega

theorem itr_range {φb : List Addr} {I : Addr} {a st : Int} {n : Nat} (hh : A.handled = none) :
    Itr prog w A hb φ₀ φb I ((rangeL a st n).map .int) (fun _ => True) (fun k hp => IsRangeIter hp I (a + (k : Nat) * st) ((n : Int) - (k : Nat)) st) where
  frame := fun k a b x e => e _ x
  live := fun k a x => ⟨_, x, by show Value.type "range_iterator" ≠ _; decide, by show Value.type "range_iterator" ≠ _; decide⟩
  item := fun k t h s v P hv R hc hat hP => by
    rw [List.getElem?_map] at hv
    obtain ⟨x, hx, rfl⟩ := Option.map_eq_some_iff.mp hv
    have hlt := (List.getElem?_eq_some_iff.mp hx).1
    rw [rangeL_len] at hlt
    refine (Walks.range (prog := prog) (w := w) hh I a st n).item k s P NoE hlt hat fun v' h' tk hv' hst' hk => ?_
    obtain ⟨u, rfl⟩ := hv'
    exact hP _ h' tk ⟨u, by rw [rangeL_get st n a k x hx]⟩ hst' fun b o hb e => hk b o (by simpa using hb) e
  done := fun t h s P R hc hat hP => by
    rw [List.length_map, rangeL_len] at hat
    exact (Walks.range (prog := prog) (w := w) hh I a st n).done s P NoE hat fun h' tk hk => hP h' tk fun b o hb e => hk b o (by simpa using hb) e
  self := fun k s P hat hP => wpAny_pyIter_rangeiter hat hP
end
end Mine

set_option linter.unusedVariables false
set_option autoImplicit false
namespace Mine
open PySem PySem.Calls PyProof.Rows

section
variable {prog : Program} {w : World} {hb : Heap} {φ₀ φ : List Addr} {h : Hp} {s : Shared} {A : Around} {Q : KV} {C : Orc} {d : Nat} {cx : Cx} {lo : Lo} {env : Env}

/-- what one turn of a comprehension gives: no item or one -/
noncomputable def TurnOk (prog : Program) (w : World) (hb : Heap) (φ₀ : List Addr) (A : Around) (cx : Cx) (cenv : Env) (lo : Lo) (sl : Nat) (ifs : List PySem.Expr) (elt : PySem.Expr) (f : V → Hp → (List V → Hp → Prop) → Prop) : Prop :=
  ∀ (φ : List Addr) (v : V) (h : Hp) (s : Shared) (K : List V → Hp → Prop) (P : Value → Shared → Prop) (P0 : Shared → Prop), EnvOK hb cx cenv φ (upd lo sl v) s.heap → Rep hb φ₀ φ h s.heap → f v h K →
    (∀ φ₁ y wy h₁ s₁, Step φ [] s s₁ φ₁ → Rep hb φ₀ φ₁ h₁ s₁.heap → EnvOK hb cx cenv φ₁ (upd lo sl v) s₁.heap → RV φ₁ y wy → K [y] h₁ → P wy s₁) →
    (∀ φ₁ h₁ s₁, Step φ [] s s₁ φ₁ → Rep hb φ₀ φ₁ h₁ s₁.heap → EnvOK hb cx cenv φ₁ (upd lo sl v) s₁.heap → K [] h₁ → P0 s₁) →
    wpAny (model prog w) A (forIn ifs true fun c r => if r = true then do let ok ← isTrue c cenv (eval c cenv); pure (ForInStep.yield ok) else pure (ForInStep.yield r))
      (fun ok s₃ => if ok = true then wpAny (model prog w) A (eval elt cenv) P NoE s₃ else P0 s₃) NoE s

theorem turn_nil {cenv : Env} {sl : Nat} {elt : PySem.Expr} {ie : E} (hA : AOk d A) (H : SE prog w hb φ₀ C d cx elt ie) :
    TurnOk prog w hb φ₀ A cx cenv lo sl [] elt (fun v h K => wpE C ie (upd lo sl v) h fun y h => K [y] h) := by
  intro φ v h s K P P0 X R q k k0
  exact wpAny_tests_nil (ev1 H hA X R q fun φ₁ av a h₁ s₁ st R₁ X₁ ra q₁ => k φ₁ av a h₁ s₁ st R₁ X₁ ra q₁)

theorem turn_one {cenv : Env} {sl : Nat} {c elt : PySem.Expr} {ic ie : E} (hA : AOk d A) (Hc : ST prog w hb φ₀ C d cx c ic) (H : SE prog w hb φ₀ C d cx elt ie) :
    TurnOk prog w hb φ₀ A cx cenv lo sl [c] elt (fun v h K => wpE C ic (upd lo sl v) h fun t h => boolP t fun t => bif t then wpE C ie (upd lo sl v) h fun y h => K [y] h else K [] h) := by
  intro φ v h s K P P0 X R q k k0
  refine wpAny_tests_one (Hc A cenv φ (upd lo sl v) h s _ _ hA X R q fun φ₁ b h₁ s₁ st R₁ X₁ q₁ => ?_)
  cases b with
  | true => exact ev1 H hA X₁ R₁ q₁ fun φ₂ av a h₂ s₂ st₂ R₂ X₂ ra q₂ => k φ₂ av a h₂ s₂ (st.trans st₂ R.five) R₂ X₂ ra q₂
  | false => exact k0 φ₁ h₁ s₁ st R₁ X₁ q₁

/-- the state between the turns -/
noncomputable def CompAt (hb : Heap) (φ₀ φb : List Addr) (cx : Cx) (cenv : Env) (lo : Lo) (D : Addr) (items : List V) (chk : Hp → Prop) (at_ : Nat → Heap → Prop) (f : V → Hp → (List V → Hp → Prop) → Prop) (K : List V → Hp → Prop)
    (s₀ : Shared) (k : Nat) (s : Shared) : Prop :=
  ∃ t ys h ws, Step φb [] s₀ s (φb ++ t) ∧ Rep hb φ₀ (φb ++ t) h s.heap ∧ EnvOK hb cx cenv (φb ++ t) lo s.heap ∧ s.heap.PlainList D ws ∧ RVs (φb ++ t) ys ws.toList ∧ ys.length ≤ k ∧ D ∉ φb ++ t ∧ at_ k s.heap ∧
    compP chk f (items.drop k) ys h K

theorem comp_loop {φb : List Addr} {I D : Addr} {items : List V} {chk : Hp → Prop} {at_ : Nat → Heap → Prop} {f : V → Hp → (List V → Hp → Prop) → Prop} {K : List V → Hp → Prop} {cenv : Env} {x : Str} {px : Pos} {iter elt : PySem.Expr} {ifs : List PySem.Expr} {sc : Scope} {pos : Pos} {sl : Nat}
    (it : Itr prog w A hb φ₀ φb I items chk at_) (hx : cSlot cx x = some sl) (hlo : lo sl = none) (ht : TurnOk prog w hb φ₀ A cx cenv lo sl ifs elt f)
    (hDI : D ≠ I) (hDo : D ∉ own cenv) (hIo : I ∉ own cenv) (hDb : hb.get? D = none) (hIb : hb.get? I = none) (hlen : items.length ≤ big)
    {s₀ : Shared} (hI0 : s₀.heap.get? I = none) (hD0 : s₀.heap.get? D = none) (hO0 : ∀ a, (a = cenv.locals ∨ (cx.names.lookup x = some .cell ∧ cenv.cells.lookup x = some a)) → s₀.heap.get? a = none) (hIt : ∀ k s t h, at_ k s.heap → Step φb [] s₀ s (φb ++ t) → Rep hb φ₀ (φb ++ t) h s.heap → I ∉ φb ++ t)
    {Rr : Result → Shared → Prop} (hR : ∀ s' t ys h' ws, Step φb [] s₀ s' (φb ++ t) → Rep hb φ₀ (φb ++ t) h' s'.heap → EnvOK hb cx cenv (φb ++ t) lo s'.heap → s'.heap.PlainList D ws → RVs (φb ++ t) ys ws.toList → ys.length ≤ big → D ∉ φb ++ t → K ys h' → Rr (.ok .next) s')
    (h5 : ro ≤ φb.length) (hs : CompAt hb φ₀ φb cx cenv lo D items chk at_ f K s₀ 0 s) :
    codeAny (model prog w) A (.compLoop (.ListComp elt [⟨.Name x px, iter, ifs, 0⟩] sc pos) 0 (.ref I) (.ref D) cenv) Rr s := by
  refine codeAny_compLoop_tests (fun n s' => ∃ k, n = items.length - k ∧ k ≤ items.length ∧ CompAt hb φ₀ φb cx cenv lo D items chk at_ f K s₀ k s') ?_ items.length ⟨0, by simp, Nat.zero_le _, hs⟩
  rintro n s₁ ⟨k, rfl, hk, t, ys, h₁, ws, st, R, X, hp, hr, hyl, hDφ, hat, q⟩
  have hIφ := hIt k s₁ t h₁ hat st R
  have afterNext : ∀ hh tk, (∀ b o, b ≠ I → s₁.heap.get? b = some o → hh.get? b = some o) →
      Rep hb φ₀ (φb ++ t) h₁ hh ∧ EnvOK hb cx cenv (φb ++ t) lo hh ∧ hh.PlainList D ws ∧ Step φb [] s₀ { s₁ with heap := hh, toks := tk } (φb ++ t) := by
    intro hh tk hk'
    have R₂ : Rep hb φ₀ (φb ++ t) h₁ hh := R.keep fun b o hb' e => hk' b o (by
      rintro rfl
      rcases hb' with h1 | h1
      · exact hIφ h1
      · rw [hIb] at h1; cases h1) e
    refine ⟨R₂, X.keepOwn fun a ha o e => hk' a o (fun e' => hIo (e' ▸ ha)) e, ?_, st.touch (T := [I]) (fun b o hb e => hk' b o (by simpa using hb) e) (by simpa using hI0) R₂⟩
    obtain ⟨n, e⟩ := hp; exact ⟨n, hk' D _ hDI e⟩
  rcases Nat.lt_or_ge k items.length with hlt | hge
  · have hdrop : items.drop k = items[k] :: items.drop (k + 1) := List.drop_eq_getElem_cons hlt
    rw [hdrop] at q
    obtain ⟨hc, q⟩ := q
    refine wpAny_mono (it.item k t h₁ s₁ items[k] _ (by simp [hlt]) R hc hat fun wv hh tk rv hat' hk' => ?_) (fun _ _ x => x) fun _ _ x => x.elim
    obtain ⟨R₂, X₂, hp₂, st₂⟩ := afterNext hh tk hk'
    refine wpAny_assign_Name (store_var (s := { s₁ with heap := hh, toks := tk }) hx X₂ R₂ rv fun a s₃ ha st₃ R₃ X₃ => ?_)
    have hao : a ∈ own cenv := by
      rcases ha with rfl | ⟨_, e⟩
      · exact List.mem_cons_self ..
      · exact List.mem_cons_of_mem _ (List.mem_map.mpr ⟨(x, a), mem_of_lookup e, rfl⟩)
    have hIs : ∀ o, hh.get? I = some o → s₃.heap.get? I = some o := fun o e => st₃.frame I o (fun hm => hIφ (List.mem_of_mem_drop hm)) (by simp; rintro rfl; exact hIo hao) e
    have hDs : ∀ o, hh.get? D = some o → s₃.heap.get? D = some o := fun o e => st₃.frame D o (fun hm => hDφ (List.mem_of_mem_drop hm)) (by simp; rintro rfl; exact hDo hao) e
    have stA : Step φb [] s₀ s₃ (φb ++ t) := by
      have := st₂.own_mono (own' := [a]) (by simp)
      exact (this.trans st₃ h5).drop_own (by simpa using hO0 a ha)
    have fin : ∀ (φ₁ : List Addr) (h' : Hp) (s₄ : Shared), Step (φb ++ t) [] s₃ s₄ φ₁ → Rep hb φ₀ φ₁ h' s₄.heap → EnvOK hb cx cenv φ₁ (upd lo sl items[k]) s₄.heap →
        ∃ t', φ₁ = φb ++ t' ∧ Step φb [] s₀ s₄ (φb ++ t') ∧ EnvOK hb cx cenv (φb ++ t') lo s₄.heap ∧ s₄.heap.PlainList D ws ∧ RVs (φb ++ t') ys ws.toList ∧ D ∉ φb ++ t' ∧ at_ (k + 1) s₄.heap := by
      intro φ₁ h' s₄ st₄ R₄ X₄
      obtain ⟨ψ, rfl, hψ⟩ := st₄.pre
      refine ⟨t ++ ψ, by simp, ?_⟩
      rw [← List.append_assoc]
      refine ⟨stA.trans st₄ h5, X₄.weaken ?_, ?_, hr.grow, ?_, ?_⟩
      · intro k' v' e
        by_cases hks : k' = sl
        · subst hks; rw [hlo] at e; cases e
        · rw [upd_ne hks]; exact e
      · obtain ⟨n, e⟩ := hp₂
        exact ⟨n, st₄.frame D _ (fun hm => hDφ (List.mem_of_mem_drop hm)) (by simp) (hDs _ e)⟩
      · intro hm
        rcases List.mem_append.mp hm with hm | hm
        · exact hDφ hm
        · obtain ⟨n, e⟩ := hp₂
          have := hDs _ e
          rw [hψ D hm] at this; cases this
      · exact it.frame _ _ _ hat' fun o e => st₄.frame I _ (fun hm => hIφ (List.mem_of_mem_drop hm)) (by simp) (hIs _ e)
    refine wpAny_mono (ht (φb ++ t) items[k] h₁ s₃ _ (fun x s₄ => wpAny (model prog w) A (call (.builtin "list.append") [.ref D, x]) (fun _ s₅ => ∃ m, m < items.length - k ∧ ∃ k', m = items.length - k' ∧ k' ≤ items.length ∧ CompAt hb φ₀ φb cx cenv lo D items chk at_ f K s₀ k' s₅) NoE s₄)
      (fun s₄ => ∃ m, m < items.length - k ∧ ∃ k', m = items.length - k' ∧ k' ≤ items.length ∧ CompAt hb φ₀ φb cx cenv lo D items chk at_ f K s₀ k' s₄) X₃ R₃ q ?_ ?_) (fun ok s₄ hx => ?_) fun _ _ x => x.elim
    · intro φ₁ y wy h' s₄ st₄ R₄ X₄ rvy qK
      obtain ⟨t', rfl, stB, X₅, hp₅, hr₅, hD₅, hat₅⟩ := fin φ₁ h' s₄ st₄ R₄ X₄
      have hsz : ws.size ≤ sizeLine := by
        have := hr₅.len
        have hbig : big = 16777216 := rfl
        have hsl : sizeLine = 16777216 := rfl
        rw [← Array.length_toList, ← this]; omega
      refine wpAny_list_append_plain hp₅ (fun h₅ hp₆ hs₆ => ⟨items.length - (k + 1), by omega, k + 1, rfl, hlt, t', ys ++ [y], h', ws.push wy, ?_, ?_, ?_, hp₆, ?_, ?_, hD₅, ?_, qK⟩) hsz
      · exact stB.touch (tk := s₄.toks) (T := [D]) (fun b o hb e => (hs₆.2 b (by simpa using hb)).trans e) (by simpa using hD0) (rep_own (own' := []) (tk := 0) R₄ hs₆ hD₅ hDb)
      · exact rep_own (own' := []) (tk := 0) R₄ hs₆ hD₅ hDb
      · exact X₅.keepOwn fun a ha o e => (hs₆.2 a (fun e' => hDo (e' ▸ ha))).trans e
      · rw [Array.toList_push]; exact hr₅.append (.cons rvy .nil)
      · simp; omega
      · exact it.frame _ _ _ hat₅ fun o e => (hs₆.2 I (Ne.symm hDI)).trans e
    · intro φ₁ h' s₄ st₄ R₄ X₄ qK
      obtain ⟨t', rfl, stB, X₅, hp₅, hr₅, hD₅, hat₅⟩ := fin φ₁ h' s₄ st₄ R₄ X₄
      rw [List.append_nil] at qK
      exact ⟨items.length - (k + 1), by omega, k + 1, rfl, hlt, t', ys, h', ws, stB, R₄, X₅, hp₅, hr₅, by omega, hD₅, hat₅, qK⟩
    · cases ok with
      | true => exact wpAny_mono hx (fun x s₅ hx => wpAny_mono hx (fun _ _ x => x) fun _ _ x => x.elim) fun _ _ x => x.elim
      | false => exact hx
  · have hke : k = items.length := Nat.le_antisymm hk hge
    subst hke
    have hd0 : items.drop items.length = [] := List.drop_length
    rw [hd0] at q
    obtain ⟨hc, q⟩ := q
    refine wpAny_mono (it.done t h₁ s₁ _ R hc hat fun hh tk hk' => ?_) (fun _ _ x => x) fun _ _ x => x.elim
    obtain ⟨R₂, X₂, hp₂, st₂⟩ := afterNext hh tk hk'
    exact hR _ t ys h₁ ws st₂ R₂ X₂ hp₂ hr (Nat.le_trans hyl hlen) hDφ q
end
end Mine

set_option linter.unusedVariables false
set_option autoImplicit false
namespace Mine
open PySem PySem.Calls PyProof.Rows

section
variable {prog : Program} {w : World} {hb : Heap} {φ₀ φ : List Addr} {h : Hp} {s : Shared} {A : Around} {Q : KV} {C : Orc} {d : Nat} {cx : Cx} {lo : Lo} {env : Env}

/-- an iterator has just been made -/
noncomputable def SrcEnd (prog : Program) (w : World) (hb : Heap) (φ₀ : List Addr) (A : Around) (cx : Cx) (env : Env) (lo : Lo) (φ : List Addr) (s : Shared) (K : List V → (Hp → Prop) → Hp → Prop) (it : Value) (s₂ : Shared) : Prop :=
  ∃ φ₁ h₁ s₁ items chk at_ o, it = .ref s₁.heap.objs.size ∧ Step φ [] s s₁ φ₁ ∧ Rep hb φ₀ φ₁ h₁ s₁.heap ∧ EnvOK hb cx env φ₁ lo s₁.heap ∧ s₂ = { s₁ with heap := s₁.heap.push o } ∧
    Itr prog w A hb φ₀ φ₁ s₁.heap.objs.size items chk at_ ∧ at_ 0 s₂.heap ∧ items.length ≤ big ∧ K items chk h₁

noncomputable def SrcOk (prog : Program) (w : World) (hb : Heap) (φ₀ : List Addr) (d : Nat) (cx : Cx) (iter : PySem.Expr) (src : Lo → Hp → (List V → (Hp → Prop) → Hp → Prop) → Prop) : Prop :=
  ∀ (A : Around) (env : Env) (φ : List Addr) (lo : Lo) (h : Hp) (s : Shared) (K : List V → (Hp → Prop) → Hp → Prop), AOk d A → EnvOK hb cx env φ lo s.heap → Rep hb φ₀ φ h s.heap → src lo h K →
    wpAny (model prog w) A (eval iter env) (fun x s₁ => wpAny (model prog w) A (pyIter x) (SrcEnd prog w hb φ₀ A cx env lo φ s K) NoE s₁) NoE s

theorem src_list {iter : PySem.Expr} {ie : E} (H : SE prog w hb φ₀ C d cx iter ie) : SrcOk prog w hb φ₀ d cx iter (fun lo h K => wpE C ie lo h fun v h => listP v h fun xs => K xs (isListAt v xs) h) := by
  intro A env φ lo h s K hA X R q
  refine ev1 H hA X R q fun φ₁ av a h₁ s₁ st₁ R₁ X₁ ra q₁ => ?_
  obtain ⟨i, l, xs, ws, rfl, rfl, hi, hl, hx, hr, hL, q₂⟩ := rep_list R₁ ra q₁
  exact wpAny_pyIter_list hL ⟨φ₁, h₁, s₁, xs, _, _, _, rfl, st₁, R₁, X₁, rfl, itr_list hA.1 hl, ⟨_, Heap.get?_push_size _ rfl, rfl, rfl⟩, hx, q₂⟩

theorem toNat_sub_le (a b : Int) : (b - a).toNat ≤ b.natAbs + a.natAbs := by omega
theorem rangeN_le {a b st : Int} (ha : a.natAbs < 2 ^ 20) (hb' : b.natAbs < 2 ^ 20) : rangeN a b st ≤ 2 ^ 21 := by
  unfold rangeN
  split
  · exact Nat.le_trans (toNat_sub_le a b) (Nat.add_le_add (Nat.le_of_lt hb') (Nat.le_of_lt ha))
  · exact Nat.le_trans (toNat_sub_le b a) (Nat.add_le_add (Nat.le_of_lt ha) (Nat.le_of_lt hb'))
theorem range_it {a b st : Int} {t u v : Tok} {r : Addr} (hA : AOk d A) (X : EnvOK hb cx env φ lo s.heap) (R : Rep hb φ₀ φ h s.heap) (hr : IsRange s.heap r a b st t u v) (ha : a.natAbs < 2 ^ 20) (hb' : b.natAbs < 2 ^ 20) (hst : st = 1 ∨ st = -1)
    {φp : List Addr} {sp : Shared} {K : List V → (Hp → Prop) → Hp → Prop} (stp : Step φp [] sp s φ) (q : K ((rangeL a st (rangeN a b st)).map .int) (fun _ => True) h) :
    wpAny (model prog w) A (pyIter (.ref r)) (SrcEnd prog w hb φ₀ A cx env lo φp sp K) NoE s := by
  have hn : Builtin.Range.rangeSize a b st = (rangeN a b st : Int) := by
    rcases hst with rfl | rfl
    · rw [rangeSize_one]; unfold rangeN; rw [if_pos rfl]; split <;> omega
    · unfold Builtin.Range.rangeSize rangeN
      rw [if_neg (show ¬ ((-1 : Int) > 0) by decide), if_neg (show ¬ ((-1 : Int) = 1) by decide)]
      have e : (- -1 : Int) = 1 := by decide
      rw [e, Int.ediv_one]
      split <;> omega
  refine wpAny_pyIter_range hr ?_ ⟨φ, h, s, _, _, _, _, rfl, stp, R, X, rfl, itr_range hA.1, ?_, ?_, q⟩
  · have hr20 : rangeN a b st ≤ 2 ^ 21 := rangeN_le ha hb'
    unfold Builtin.Range.small Builtin.Range.rangeFitsLong
    rw [hn]
    rcases hst with rfl | rfl <;> simp <;> omega
  · have e1 : a + ((0 : Nat) : Int) * st = a := by simp
    have e2 : ((rangeN a b st : Nat) : Int) - ((0 : Nat) : Int) = Builtin.Range.rangeSize a b st := by rw [hn]; simp
    show IsRangeIter _ _ _ _ _
    rw [e1, e2]
    exact Heap.get?_push_size _ rfl
  · rw [List.length_map, rangeL_len]
    exact Nat.le_trans (rangeN_le ha hb') (by decide)

theorem src_range1 (St : Stat hb φ₀) {n : Str} {np pos : Pos} {e : PySem.Expr} {ie : E} (hn : isBuiltin cx n nRange = true) (H : SE prog w hb φ₀ C d cx e ie) (he : ∀ env, starEach [e] env = [(false, eval e env)]) :
    SrcOk prog w hb φ₀ d cx (.Call (.Name n np) [e] [] pos) (fun lo h K => wpE C ie lo h fun b h => intP (.int 0) fun a => intP b fun b => (a.natAbs < 2 ^ 20 ∧ b.natAbs < 2 ^ 20) ∧ K ((rangeL a 1 (rangeN a b 1)).map .int) (fun _ => True) h) := by
  intro A env φ lo h s K hA X R q
  refine call_typ (ies := []) (K := fun vs h => ∃ v, vs = [v] ∧ intP v fun b => ((0 : Int).natAbs < 2 ^ 20 ∧ b.natAbs < 2 ^ 20) ∧ K ((rangeL 0 1 (rangeN 0 b 1)).map .int) (fun _ => True) h) St hn (by simp) (fun mb x => x.2.2.1) (.cons H he .nil) he hA X R ?_ fun φ₁ avs as h₁ s₁ st₁ R₁ X₁ ra q₁ => ?_
  · simp only [qEs0, qEs1, List.cons.injEq, and_true, exists_eq_left']; exact q
  · obtain ⟨v, rfl, q₂⟩ := q₁
    obtain ⟨a, rfl, rv⟩ := rvs_one ra
    obtain ⟨k, t, rfl, rfl, q₃⟩ := rv_int rv q₂
    refine call_range_1 ?_
    have kp : ∀ b o, s₁.heap.get? b = some o → (s₁.heap.push { cls := .type "range", data := .fields #[.int 0 s₁.toks, .int k t, .int 1 (s₁.toks + 1)] }).get? b = some o := fun b o e => Heap.get?_push_of_some _ e
    exact range_it (s := { s₁ with heap := _, toks := _ }) hA (X₁.keeps kp) (R₁.keeps kp) (Heap.get?_push_size _ rfl) (by decide) q₃.1.2 (.inl rfl) (st₁.trans (Step.of_keeps _ _ kp) R.five) q₃.2

theorem src_range2 (St : Stat hb φ₀) {n : Str} {np pos : Pos} {e e' : PySem.Expr} {ie ie' : E} (hn : isBuiltin cx n nRange = true) (H : SE prog w hb φ₀ C d cx e ie) (H' : SE prog w hb φ₀ C d cx e' ie')
    (he : ∀ env, starEach [e, e'] env = (false, eval e env) :: starEach [e'] env) (he' : ∀ env, starEach [e'] env = [(false, eval e' env)]) :
    SrcOk prog w hb φ₀ d cx (.Call (.Name n np) [e, e'] [] pos) (fun lo h K => wpE C ie lo h fun a h => wpE C ie' lo h fun b h => intP a fun a => intP b fun b => (a.natAbs < 2 ^ 20 ∧ b.natAbs < 2 ^ 20) ∧ K ((rangeL a 1 (rangeN a b 1)).map .int) (fun _ => True) h) := by
  intro A env φ lo h s K hA X R q
  refine call_typ (ies := [ie']) (K := fun vs h => ∃ v u, vs = [v, u] ∧ intP v fun a => intP u fun b => (a.natAbs < 2 ^ 20 ∧ b.natAbs < 2 ^ 20) ∧ K ((rangeL a 1 (rangeN a b 1)).map .int) (fun _ => True) h) St hn (by simp) (fun mb x => x.2.2.1) (.cons H he (.cons H' he' .nil)) he hA X R ?_ fun φ₁ avs as h₁ s₁ st₁ R₁ X₁ ra q₁ => ?_
  · simp only [qEs0, qEs1]
    refine Eq.mp ?_ q
    congr 1
    funext v h
    congr 1
    funext u h
    refine propext ⟨fun x => ⟨v, u, rfl, x⟩, ?_⟩
    rintro ⟨v', u', e, x⟩
    cases e; exact x
  · obtain ⟨v, u, rfl, q₂⟩ := q₁
    obtain ⟨a, b, rfl, rv, ru⟩ := rvs_two ra
    obtain ⟨k, t, rfl, rfl, q₃⟩ := rv_int rv q₂
    obtain ⟨k', t', rfl, rfl, q₄⟩ := rv_int ru q₃
    refine call_range_2 ?_
    have kp : ∀ b o, s₁.heap.get? b = some o → (s₁.heap.push { cls := .type "range", data := .fields #[.int k t, .int k' t', .int 1 s₁.toks] }).get? b = some o := fun b o e => Heap.get?_push_of_some _ e
    exact range_it (s := { s₁ with heap := _, toks := _ }) hA (X₁.keeps kp) (R₁.keeps kp) (Heap.get?_push_size _ rfl) q₄.1.1 q₄.1.2 (.inl rfl) (st₁.trans (Step.of_keeps _ _ kp) R.five) q₄.2

theorem src_range3 (St : Stat hb φ₀) {n : Str} {np pos : Pos} {e e' e'' : PySem.Expr} {ie ie' ie'' : E} (hn : isBuiltin cx n nRange = true) (H : SE prog w hb φ₀ C d cx e ie) (H' : SE prog w hb φ₀ C d cx e' ie') (H'' : SE prog w hb φ₀ C d cx e'' ie'')
    (he : ∀ env, starEach [e, e', e''] env = (false, eval e env) :: starEach [e', e''] env) (he' : ∀ env, starEach [e', e''] env = (false, eval e' env) :: starEach [e''] env) (he'' : ∀ env, starEach [e''] env = [(false, eval e'' env)]) :
    SrcOk prog w hb φ₀ d cx (.Call (.Name n np) [e, e', e''] [] pos) (fun lo h K => wpE C ie lo h fun a h => wpE C ie' lo h fun b h => wpE C ie'' lo h fun c h => intP a fun a => intP b fun b => intP c fun c => (a.natAbs < 2 ^ 20 ∧ b.natAbs < 2 ^ 20 ∧ (c = 1 ∨ c = -1)) ∧ K ((rangeL a c (rangeN a b c)).map .int) (fun _ => True) h) := by
  intro A env φ lo h s K hA X R q
  refine call_typ (ies := [ie', ie'']) (K := fun vs h => ∃ v u x, vs = [v, u, x] ∧ intP v fun a => intP u fun b => intP x fun c => (a.natAbs < 2 ^ 20 ∧ b.natAbs < 2 ^ 20 ∧ (c = 1 ∨ c = -1)) ∧ K ((rangeL a c (rangeN a b c)).map .int) (fun _ => True) h) St hn (by simp) (fun mb x => x.2.2.1) (.cons H he (.cons H' he' (.cons H'' he'' .nil))) he hA X R ?_ fun φ₁ avs as h₁ s₁ st₁ R₁ X₁ ra q₁ => ?_
  · simp only [qEs0, qEs1]
    refine Eq.mp ?_ q
    congr 1
    funext v h
    congr 1
    funext u h
    congr 1
    funext x h
    refine propext ⟨fun y => ⟨v, u, x, rfl, y⟩, ?_⟩
    rintro ⟨v', u', x', e, y⟩
    cases e; exact y
  · obtain ⟨v, u, x, rfl, q₂⟩ := q₁
    obtain ⟨a, b, c, rfl, rv, ru, rx⟩ := rvs_three ra
    obtain ⟨k, t, rfl, rfl, q₃⟩ := rv_int rv q₂
    obtain ⟨k', t', rfl, rfl, q₄⟩ := rv_int ru q₃
    obtain ⟨k'', t'', rfl, rfl, q₅⟩ := rv_int rx q₄
    have hc : k'' = 1 ∨ k'' = -1 := q₅.1.2.2
    refine call_range_3 (by rcases hc with rfl | rfl <;> decide) ?_ (.inl (PyProof.noPylong_small (by rcases hc with rfl | rfl <;> decide)))
    have kp : ∀ b o, s₁.heap.get? b = some o → (s₁.heap.push { cls := .type "range", data := .fields #[.int k t, .int k' t', .int k'' t''] }).get? b = some o := fun b o e => Heap.get?_push_of_some _ e
    exact range_it (s := { s₁ with heap := _, toks := _ }) hA (X₁.keeps kp) (R₁.keeps kp) (Heap.get?_push_size _ rfl) q₅.1.1 q₅.1.2.1 hc (st₁.trans (Step.of_keeps _ s₁.toks kp) R.five) q₅.2
end
end Mine

set_option linter.unusedVariables false
set_option autoImplicit false
namespace Mine
open PySem PySem.Calls PyProof.Rows

section
variable {prog : Program} {w : World} {hb : Heap} {φ₀ φ : List Addr} {h : Hp} {s : Shared} {A : Around} {Q : KV} {C : Orc} {d : Nat} {cx : Cx} {lo : Lo} {env : Env}

theorem se_comp {elt iter : PySem.Expr} {x : Str} {px pos : Pos} {ifs : List PySem.Expr} {sc : Scope} {sl : Nat} {ie : E} {src : Lo → Hp → (List V → (Hp → Prop) → Hp → Prop) → Prop} {f : Lo → V → Hp → (List V → Hp → Prop) → Prop}
    (hs : scopeOk cx sc = true) (hx : cSlot (cx.inner sc) x = some sl) (Hsrc : SrcOk prog w hb φ₀ d cx iter src) (hset : ∀ env x, foldedSetIterable iter env x = pure x)
    (Ht : ∀ A cenv lo, AOk d A → TurnOk prog w hb φ₀ A (cx.inner sc) cenv lo sl ifs elt (f lo))
    (hw : ∀ lo h Q, wpE C ie lo h Q → src lo h fun xs chk h => compP chk (f lo) xs [] h fun ys h => Q (.ref h.length) (h ++ [.L ys])) :
    SE prog w hb φ₀ C d cx (.ListComp elt [⟨.Name x px, iter, ifs, 0⟩] sc pos) ie := by
  intro A env φ lo h s Q hA X R q
  have hs' := hs
  simp only [scopeOk, Bool.and_eq_true] at hs'
  obtain ⟨⟨⟨⟨hkd, hno⟩, hvo⟩, hloc⟩, hfre⟩ := hs'
  have hkd : sc.kind = .function := by simpa using hkd
  simp only [namesOk, Bool.and_eq_true, decide_eq_true_eq, List.all_eq_true, Bool.not_eq_true'] at hno
  have hnd := hno.1
  simp only [List.all_eq_true] at hloc hfre
  have cellFact : ∀ x, (x, NameKind.free) ∈ sc.names → ∃ c, env.cells.lookup x = some c := fun x hm => by
    have h2 := hfre (x, .free) hm
    simp only [bne_self_eq_false, Bool.false_or, Bool.and_eq_true, Bool.or_eq_true, beq_iff_eq] at h2
    obtain ⟨⟨h3, h4⟩, h5⟩ := h2
    obtain ⟨sl, e⟩ := Option.isSome_iff_exists.mp h4
    obtain ⟨c, o, hc, _⟩ := X.cel x sl h3 e
    exact ⟨c, hc⟩
  have hlo : lo sl = none := by
    obtain ⟨hkk, hx⟩ := cSlot_some hx
    have base : ∀ k, sc.names.lookup x = some k → (k = .local ∨ k = .cell) → (cx.inner sc).vars.lookup x = some sl → lo sl = none := by
      intro k hk hk2 hv
      have h2 := hloc (x, k) (mem_of_lookup hk)
      dsimp only at h2
      rw [hv] at h2
      refine X.fresh sl ?_
      rcases hk2 with rfl | rfl <;> simpa using h2
    rcases hkk with hk | hk
    · exact base _ hk (.inl rfl) hx
    · exact base _ hk (.inr rfl) hx
  rw [arm_eval_ListComp]
  show wpAny _ A (comprehension _ sc env _ (newList []) false (eval iter env) none) _ _ s
  refine wpAny_comprehension_free (cl := closeOf env.cells sc.names []) rfl (hset env) (closureFor_eq sc env cellFact) hkd (fun y hy hl => lookup_of_mem hnd (k := .local) (by rw [← hl]; exact hy)) ?_
  refine wpAny_mono (Hsrc A env φ lo h s _ hA X R (hw lo h Q q)) (fun x₀ s' hx₀ => wpAny_mono hx₀ (fun it s₂ hit => ?_) fun _ _ x => x) fun _ _ x => x
  obtain ⟨φ₁, h₁, s₁, items, chk, at_, o, rfl, st₁, R₁, X₁, rfl, itr, hat, hlen, q₁⟩ := hit
  refine wpAny_newList (wp_compEnv rfl ?_) (by simp)
  have kI : ∀ b o', s₁.heap.get? b = some o' → (s₁.heap.push o).get? b = some o' := fun b o' e => Heap.get?_push_of_some _ e
  have kD : ∀ b o', (s₁.heap.push o).get? b = some o' → ((s₁.heap.push o).push { cls := .type "list", data := .seq ([] : List Value).toArray }).get? b = some o' := fun b o' e => Heap.get?_push_of_some _ e
  have sz1 : (s₁.heap.push o).objs.size = s₁.heap.objs.size + 1 := Heap.size_push ..
  have sz2 : ((s₁.heap.push o).push { cls := .type "list", data := .seq ([] : List Value).toArray }).objs.size = s₁.heap.objs.size + 2 := by rw [Heap.size_push, sz1]
  have fr : ∀ a, s₁.heap.objs.size ≤ a → s₁.heap.get? a = none := fun a ha => by
    cases e : s₁.heap.get? a with
    | none => rfl
    | some o => exact absurd (Heap.lt_size e) (Nat.not_lt.mpr ha)
  have R₃ : Rep hb φ₀ φ₁ h₁ ((s₁.heap.push o).push { cls := .type "list", data := .seq ([] : List Value).toArray }) := R₁.keeps fun b o' e => kD b o' (kI b o' e)
  have X₃ : EnvOK hb cx env φ₁ lo ((s₁.heap.push o).push { cls := .type "list", data := .seq ([] : List Value).toArray }) := X₁.keeps fun b o' e => kD b o' (kI b o' e)
  have CE := compEnvOK hs X₃ R₃
  generalize hH : ((s₁.heap.push o).push { cls := .type "list", data := .seq ([] : List Value).toArray }) = H₃ at CE sz2 R₃ X₃ kD ⊢
  obtain ⟨XC, ownN, ownS⟩ := CE
  have kC : ∀ b o', H₃.get? b = some o' → (pushCells (H₃.push { cls := .type "dict", data := .dict #[] }) sc.names).get? b = some o' := fun b o' e => pushCells_keeps _ _ b o' (Heap.get?_push_of_some _ e)
  have kAll : ∀ b o', s₁.heap.get? b = some o' → (pushCells (H₃.push { cls := .type "dict", data := .dict #[] }) sc.names).get? b = some o' := fun b o' e => kC b o' (kD b o' (kI b o' e))
  generalize hH4 : (pushCells (H₃.push { cls := .type "dict", data := .dict #[] }) sc.names) = H₄ at XC kC kAll ⊢
  have ownLive : ∀ a ∈ own env, a < s₁.heap.objs.size := fun a ha => by obtain ⟨o, e⟩ := X₁.live a ha; exact Heap.lt_size e
  have hDget : H₃.get? (s₁.heap.objs.size + 1) = some { cls := .type "list", data := .seq ([] : List Value).toArray } := by
    rw [← hH, ← sz1]; exact Heap.get?_push_size _ rfl
  have notOwn : ∀ a, s₁.heap.objs.size ≤ a → a < s₁.heap.objs.size + 2 → a ∉ own (compE H₃.objs.size sc env) := fun a h1 h2 hm => by
    rcases ownS a hm with e | e | e
    · rw [sz2] at e; rw [e] at h2; exact Nat.lt_irrefl _ h2
    · rw [sz2] at e; exact Nat.lt_asymm e h2
    · exact absurd (ownLive a e) (Nat.not_lt.mpr h1)
  have goal : codeAny (model prog w) A (.compLoop (.ListComp elt [⟨.Name x px, iter, ifs, 0⟩] sc pos) 0 (.ref s₁.heap.objs.size) (.ref (s₁.heap.objs.size + 1)) (compE H₃.objs.size sc env))
      (compPost (model prog w) A NoE none (PostE hb φ₀ φ s Q) (.ref (s₁.heap.objs.size + 1)) H₃.objs.size) { s₁ with heap := H₄ } := by
    refine comp_loop (s := { s₁ with heap := H₄ }) (s₀ := s₁) (K := fun ys h => Q (.ref h.length) (h ++ [.L ys])) itr hx hlo (Ht A _ lo hA) (Nat.succ_ne_self _) (notOwn _ (by omega) (by omega)) (notOwn _ (by omega) (by omega)) (R₁.fresh (fr _ (by omega))) (R₁.fresh (fr _ (by omega))) hlen
      (fr _ (by omega)) (fr _ (by omega)) ?_ (fun k s t h hat st R => itr.off hat R) ?_ R₁.five ?_
    · rintro a (rfl | ⟨hk, hc⟩)
      · exact fr _ (by show s₁.heap.objs.size ≤ H₃.objs.size; omega)
      · have hmem : a ∈ own (compE H₃.objs.size sc env) := List.mem_cons_of_mem _ (List.mem_map.mpr ⟨(x, a), mem_of_lookup hc, rfl⟩)
        rcases cells_of_comp hc with hm | ⟨hn, _⟩
        · have ok := cellsFrom_ok sc.names (H₃.push { cls := .type "dict", data := .dict #[] }) (H₃.objs.size + 1) [] ⟨fun _ _ hm => (nomatch hm), List.Pairwise.nil⟩ (by rw [Heap.size_push]; exact Nat.le_refl _)
          rw [Heap.size_push] at ok
          exact fr _ (by have := (ok.empty x a hm).2; omega)
        · have := cellsFrom_has sc.names (H₃.objs.size + 1) x (mem_of_lookup hk)
          rw [hn] at this; cases this
    · intro s' t ys h' ws st' R' X' hp hr hyl hD qK
      have hns := X'.ns
      obtain ⟨m, hn, _⟩ := hns
      refine ⟨m, hn, fun h'' hs'' => ?_⟩
      have hCφ : H₃.objs.size ∉ φ₁ ++ t := X'.apart _ (List.mem_cons_self ..)
      have hCb : hb.get? H₃.objs.size = none := X'.base _ (List.mem_cons_self ..)
      have R'' : Rep hb φ₀ (φ₁ ++ t) h' h'' := rep_own (own' := []) (tk := 0) R' hs'' hCφ hCb
      have stF : Step φ₁ [] s₁ { s' with heap := h'' } (φ₁ ++ t) := st'.touch (T := [H₃.objs.size]) (tk := s'.toks) (fun b o hb e => (hs''.2 b (by simpa using hb)).trans e) (by simpa using fr _ (by omega)) R''
      have hp'' : h''.PlainList (s₁.heap.objs.size + 1) ws := by
        obtain ⟨n, e⟩ := hp
        exact ⟨n, (hs''.2 _ (by rw [sz2]; exact Nat.ne_of_lt (Nat.lt_succ_self _))).trans e⟩
      have hDn : s₁.heap.get? (s₁.heap.objs.size + 1) = none := fr _ (by omega)
      obtain ⟨n, hpn⟩ := hp''
      have Rf : Rep hb φ₀ (φ₁ ++ t ++ [s₁.heap.objs.size + 1]) (h' ++ [.L ys]) h'' := R''.adopt hD (R₁.fresh hDn) ⟨ws.toList, hyl, hr.grow, _, hpn, rfl, n, by simp⟩ (fun xs _ => ⟨ws, n, hpn⟩)
      refine ⟨φ₁ ++ t ++ [s₁.heap.objs.size + 1], .ref h'.length, h' ++ [.L ys], ?_, Rf, ⟨_, by rw [List.getElem?_append_right (by rw [R''.len]; exact Nat.le_refl _), R''.len, Nat.sub_self]; rfl, rfl⟩, qK⟩
      have stG : Step φ₁ [] s₁ { s' with heap := h'' } (φ₁ ++ t ++ [s₁.heap.objs.size + 1]) := by
        obtain ⟨⟨hh, tk, e⟩, ⟨ψ, e2, hψ⟩, fr', lv⟩ := stF
        refine ⟨⟨hh, tk, e⟩, ⟨t ++ [s₁.heap.objs.size + 1], by simp, fun a ha => ?_⟩, fr', lv⟩
        rcases List.mem_append.mp ha with ha | ha
        · have := List.append_cancel_left e2; subst this; exact hψ a ha
        · rw [List.mem_singleton] at ha; subst ha; exact hDn
      exact st₁.trans stG R.five
    · refine ⟨[], [], h₁, #[], ?_, ?_, ?_, ?_, ?_, Nat.le_refl _, ?_, ?_, ?_⟩
      · rw [List.append_nil]; exact Step.of_keeps H₄ s₁.toks kAll
      · rw [List.append_nil]; exact R₁.keeps kAll
      · rw [List.append_nil]; exact XC
      · exact ⟨0, kC _ _ hDget⟩
      · exact .nil
      · rw [List.append_nil]
        intro hm
        obtain ⟨o', e⟩ := R₁.live hm
        rw [fr _ (by omega)] at e; cases e
      · exact itr.frame 0 _ _ hat fun o' e => kC _ _ (kD _ _ e)
      · rw [List.drop_zero]; exact q₁
  have sz1' : ({ s₁ with heap := s₁.heap.push o } : Shared).heap.objs.size = s₁.heap.objs.size + 1 := sz1
  rw [sz1']
  refine codeAny_compStart_list goal ?_
  exact wpAny_mono (itr.self 0 _ _ (itr.frame 0 _ _ hat fun o' e => kC _ _ (kD _ _ e)) goal) (fun _ _ x => x) fun _ _ x => x.elim
end
end Mine

set_option linter.unusedVariables false
set_option autoImplicit false
namespace Mine
open PySem PySem.Calls PyProof.Rows

section
variable {prog : Program} {w : World} {hb : Heap} {φ₀ φ : List Addr} {h : Hp} {s : Shared} {A : Around} {C : Orc} {d : Nat} {cx : Cx} {lo : Lo} {env : Env}

noncomputable def FR (φ : List Addr) : R → Flow → Prop
  | .next, f => f = .next
  | .ret v, f => ∃ wv, f = .ret wv ∧ RV φ v wv

noncomputable def PostS (hb : Heap) (φ₀ : List Addr) (cx : Cx) (env : Env) (φ : List Addr) (s : Shared) (Q : KR) : Flow → Shared → Prop := fun f s' =>
  ∃ φ' lo' h' r, Step φ (own env) s s' φ' ∧ Rep hb φ₀ φ' h' s'.heap ∧ EnvOK hb cx env φ' lo' s'.heap ∧ FR φ' r f ∧ Q r lo' h'

theorem PostS.trans {φ₁ : List Addr} {s₁ s₂ : Shared} {Q : KR} {f : Flow} (h5 : ro ≤ φ.length) (x : Step φ (own env) s s₁ φ₁) (p : PostS hb φ₀ cx env φ₁ s₁ Q f s₂) : PostS hb φ₀ cx env φ s Q f s₂ := by
  obtain ⟨φ', lo', h', r, st, R, X, fr, q⟩ := p
  exact ⟨φ', lo', h', r, x.trans st h5, R, X, fr, q⟩

noncomputable def SS (prog : Program) (w : World) (hb : Heap) (φ₀ : List Addr) (C : Orc) (d : Nat) (cx : Cx) (st : Stmt) (is : S) : Prop :=
  ∀ (A : Around) (env : Env) (φ : List Addr) (lo : Lo) (h : Hp) (s : Shared) (Q : KR), AOk d A → EnvOK hb cx env φ lo s.heap → Rep hb φ₀ φ h s.heap → wpS C is lo h Q →
    wpAny (model prog w) A (exec st env) (PostS hb φ₀ cx env φ s Q) NoE s
noncomputable def SSs (prog : Program) (w : World) (hb : Heap) (φ₀ : List Addr) (C : Orc) (d : Nat) (cx : Cx) (sts : List Stmt) (is : List S) : Prop :=
  ∀ (A : Around) (env : Env) (φ : List Addr) (lo : Lo) (h : Hp) (s : Shared) (Q : KR), AOk d A → EnvOK hb cx env φ lo s.heap → Rep hb φ₀ φ h s.heap → wpSs C is lo h Q →
    wpAny (model prog w) A (execs sts env) (PostS hb φ₀ cx env φ s Q) NoE s

theorem sss_nil : SSs prog w hb φ₀ C d cx [] [] := fun A env φ lo h s Q hA X R q =>
  wpAny_execs_nil ⟨φ, lo, h, .next, Step.refl .., R, X, rfl, by simpa only [qSs0, qSs1] using q⟩

theorem sss_cons {st : Stmt} {is : S} {sts : List Stmt} {iss : List S} (H : SS prog w hb φ₀ C d cx st is) (Hs : SSs prog w hb φ₀ C d cx sts iss) : SSs prog w hb φ₀ C d cx (st :: sts) (is :: iss) := by
  intro A env φ lo h s Q hA X R q
  simp only [qSs0, qSs1] at q
  refine wpAny_execs_cons (wpAny_mono (H A env φ lo h s _ hA X R q) (fun f s₁ p => ?_) fun _ _ x => x)
  obtain ⟨φ₁, lo₁, h₁, r, st₁, R₁, X₁, fr, q₁⟩ := p
  cases r with
  | next =>
    have fr : f = .next := fr
    subst fr
    exact wpAny_mono (Hs A env φ₁ lo₁ h₁ s₁ Q hA X₁ R₁ q₁) (fun f s₂ p => p.trans R.five st₁) fun _ _ x => x
  | ret v =>
    obtain ⟨wv, rfl, rv⟩ := fr
    exact ⟨φ₁, lo₁, h₁, .ret v, st₁, R₁, X₁, ⟨wv, rfl, rv⟩, q₁⟩

theorem Step.own0 {φ φ' : List Addr} {s s' : Shared} (x : Step φ [] s s' φ') : Step φ (own env) s s' φ' := x.own_mono (by simp)

/-! ## stores -/
theorem own_of_cell {x : Str} {a : Addr} (ha : a = env.locals ∨ (cx.names.lookup x = some .cell ∧ env.cells.lookup x = some a)) : a ∈ own env := by
  rcases ha with rfl | ⟨_, e⟩
  · exact List.mem_cons_self ..
  · exact List.mem_cons_of_mem _ (List.mem_map.mpr ⟨(x, a), mem_of_lookup e, rfl⟩)

noncomputable def STg (prog : Program) (w : World) (hb : Heap) (φ₀ : List Addr) (C : Orc) (d : Nat) (cx : Cx) (t : PySem.Expr) (it : T) : Prop :=
  ∀ (A : Around) (env : Env) (φ : List Addr) (lo : Lo) (h : Hp) (s : Shared) (v : V) (wv : Value) (K : Lo → Hp → Prop) (P : Unit → Shared → Prop), AOk d A → EnvOK hb cx env φ lo s.heap → Rep hb φ₀ φ h s.heap → RV φ v wv → wpT C it v lo h K →
    (∀ φ₁ lo₁ h₁ s₁, Step φ (own env) s s₁ φ₁ → Rep hb φ₀ φ₁ h₁ s₁.heap → EnvOK hb cx env φ₁ lo₁ s₁.heap → K lo₁ h₁ → P () s₁) → wpAny (model prog w) A (assign t env wv) P NoE s

theorem stg_nm {x : Str} {p : Pos} {sl : Nat} (hc : cSlot cx x = some sl) : STg prog w hb φ₀ C d cx (.Name x p) (.nm sl) := by
  intro A env φ lo h s v wv K P hA X R rv q k
  simp only [qT0, qT1] at q
  exact wpAny_assign_Name (store_var hc X R rv fun a s₁ ha st R₁ X₁ => k φ _ h s₁ (st.own_mono (by simpa using own_of_cell ha)) R₁ X₁ q)

theorem arm_assign_Sub (o i : PySem.Expr) (pos : Pos) (env : Env) (v : Value) : assign (.Subscript o i pos) env v = (do
    let ov ← holding [v] (eval o env)
    let iv ← holding [v, ov] (eval i env)
    standAt pos
    holding [v, ov, iv] (setItem ov iv v)
    release (match i with | .Slice _ _ none _ => [iv, v, ov] | _ => [v, ov, iv]) []) := rfl

set_option maxRecDepth 4000 in
theorem set_plain {l : Addr} {items : Array Value} {n : Nat} {k : Int} {t : Tok} {v : Value} {P : Unit → Shared → Prop} {E' : Value → Shared → Prop} (ho : s.heap.get? l = some { cls := .type "list", data := .seq items n }) (h0 : 0 ≤ k) (hfit : k < 2 ^ 63) (hn : k < items.size)
    (hQ : P () { s with heap := s.heap.update l (Obj.mapSeq (·.setIfInBounds k.toNat v)) }) : wpAny (model prog w) A (setItem (.ref l) (.int k t) v) P E' s := by
  have hl : s.heap.IsList l items := ⟨_, ho, rfl, n, rfl⟩
  unfold setItem
  refine wpAny_holding ?_
  refine wpAny_bind (wpAny_sequenceKey hl.typeIs (by decide) ?_)
  refine wpAny_bind (wpAny_callSpecial?_slot (name := Str.ofString "__setitem__") hl.typeIs slot_list_setitem
    (wpAny_call_entry slot_list_setitem hl.typeIs entry_list_setitem ?_ (args_list_setitem _ _ _)))
  show wpAny _ _ (Builtin.List.listSubscript? (.int k t) >>= _) _ _ s
  refine wpAny_bind (wpAny_listSubscript_int (fitsIndex_of h0 hfit) ?_)
  clear hfit
  obtain ⟨j, rfl⟩ := Int.eq_ofNat_of_zero_le h0
  have hj : items[j]? = some (items[j]'(by omega)) := Array.getElem?_eq_getElem (by omega)
  show wpAny _ _ ((seqItemAt l j >>= fun r => pure (r.map (j, ·))) >>= _) _ _ s
  refine wpAny_bind (wpAny_bind (wpAny_seqItemAt ho rfl (wpAny_pure ?_)))
  rw [hj]
  show wpAny _ _ (setSeqItemAt l j v >>= _) _ _ s
  refine wpAny_bind (wpAny_setSeqItemAt ho rfl ?_)
  first
    | exact wpAny_bind (wpAny_pure (wpAny_pure ⟨.none, rfl, wpAny_pure hQ⟩))
    | exact wpAny_pure ⟨.none, rfl, wpAny_pure hQ⟩

theorem stg_sub {o i : PySem.Expr} {p : Pos} {io ii : E} (Ho : SE prog w hb φ₀ C d cx o io) (Hi : SE prog w hb φ₀ C d cx i ii) : STg prog w hb φ₀ C d cx (.Subscript o i p) (.sub io ii) := by
  intro A env φ lo h s v wv K P hA X R rv q k
  simp only [qT0, qT1] at q
  rw [arm_assign_Sub]
  refine wpAny_bind (wpAny_holding (ev1 Ho hA X R q fun φ₁ av a h₁ s₁ st₁ R₁ X₁ ra q₁ => wpAny_bind (wpAny_holding (ev1 Hi hA X₁ R₁ q₁ fun φ₂ bv b h₂ s₂ st₂ R₂ X₂ rb q₂ => wpAny_bind (wpAny_standAt (wpAny_bind (wpAny_holding ?_)))))))
  obtain ⟨i', n', xs, rfl, rfl, hi, ⟨h5, h0, hlt⟩, q₃⟩ := setP_some q₂
  obtain ⟨l, hl, rfl⟩ := ra.step st₂
  obtain ⟨t, rfl⟩ := rb
  obtain ⟨its, n, hp⟩ := R₂.plain _ _ _ h5 hi hl
  obtain ⟨l', hl', ws, hx, hr, o', ho', hc', n₂, hd'⟩ := R₂.obj _ _ hi
  rw [hl] at hl'; cases hl'
  rw [hp] at ho'; cases ho'
  cases hd'
  have hlen := hr.len
  have hbig : big = 16777216 := rfl
  refine set_plain (n := n) hp h0 (by omega) (by simp; omega) ?_
  refine wpAny_release ?_
  have hp' : (s₂.heap.update l (Obj.mapSeq (·.setIfInBounds n'.toNat wv))).PlainList l (ws.set n'.toNat wv).toArray := by
    refine ⟨n, ?_⟩
    have := Heap.get?_update_self (h := s₂.heap) (Obj.mapSeq (·.setIfInBounds n'.toNat wv)) hp (by simp [Obj.mapSeq, Obj.isFreed])
    rw [this]
    simp [Obj.mapSeq]
  have hsame := Heap.SameBut.update s₂.heap l (Obj.mapSeq (·.setIfInBounds n'.toNat wv))
  have hil : i' < h₂.length := (List.getElem?_eq_some_iff.mp hi).1
  have hlm : l ∈ φ₂.drop ro := by
    refine List.mem_of_getElem? (i := i' - ro) ?_
    rw [List.getElem?_drop, show ro + (i' - ro) = i' by omega]; exact hl
  have rv₂ : RV φ₂ v wv := (rv.step st₁).step st₂
  have R₃ : Rep hb φ₀ φ₂ (h₂.set i' (.L (xs.set n'.toNat v))) (s₂.heap.update l (Obj.mapSeq (·.setIfInBounds n'.toNat wv))) :=
    R₂.set h5 hil hl (fun b o hb e => (hsame.2 b hb).trans e) (by simpa using hx) (hr.set rv₂ _) hp'
  have st₃ : Step φ₂ [] s₂ { s₂ with heap := s₂.heap.update l (Obj.mapSeq (·.setIfInBounds n'.toNat wv)) } φ₂ :=
    ⟨⟨_, s₂.toks, rfl⟩, ⟨[], by simp, by simp⟩, fun b o hb _ e => (hsame.2 b (by rintro rfl; exact hb hlm)).trans e, fun b o e => by
      by_cases hbl : b = l
      · subst hbl; obtain ⟨n, e⟩ := hp'; exact ⟨_, e⟩
      · exact ⟨o, (hsame.2 b hbl).trans e⟩⟩
  have st := (st₁.trans st₂ R.five).trans st₃ R.five
  exact k φ₂ lo _ _ st.own0 R₃ (X₂.step st₃ (by simp)) q₃

inductive STgs (prog : Program) (w : World) (hb : Heap) (φ₀ : List Addr) (C : Orc) (d : Nat) (cx : Cx) : List PySem.Expr → List T → Prop where
  | nil : STgs prog w hb φ₀ C d cx [] []
  | cons {t : PySem.Expr} {it : T} {ts : List PySem.Expr} {its : List T} : STg prog w hb φ₀ C d cx t it → (∀ env, assignEach (t :: ts) env = (false, assign t env) :: assignEach ts env) → STgs prog w hb φ₀ C d cx ts its → STgs prog w hb φ₀ C d cx (t :: ts) (it :: its)

theorem stgs_len {ts : List PySem.Expr} {its : List T} (H : STgs prog w hb φ₀ C d cx ts its) (env : Env) : (assignEach ts env).length = ts.length ∧ its.length = ts.length ∧ (assignEach ts env).findIdx? (·.1) = none := by
  induction H with
  | nil => exact ⟨rfl, rfl, rfl⟩
  | cons _ he _ ih => rw [he]; simp [ih, List.findIdx?_cons]

theorem assigns {ts : List PySem.Expr} {its : List T} (H : STgs prog w hb φ₀ C d cx ts its) (hA : AOk d A) : ∀ {φ : List Addr} {lo : Lo} {h : Hp} {s : Shared} {vs : List V} {ws : List Value} {K : Lo → Hp → Prop} {P : Unit → Shared → Prop},
    EnvOK hb cx env φ lo s.heap → Rep hb φ₀ φ h s.heap → RVs φ vs ws → wpTs C its vs lo h K →
    (∀ φ₁ lo₁ h₁ s₁, Step φ (own env) s s₁ φ₁ → Rep hb φ₀ φ₁ h₁ s₁.heap → EnvOK hb cx env φ₁ lo₁ s₁.heap → K lo₁ h₁ → P () s₁) →
    wpAny (model prog w) A (assignInOrder ((assignEach ts env).map (·.2)) ws) P NoE s := by
  induction H with
  | nil =>
    intro φ lo h s vs ws K P X R rv q k
    cases rv with
    | nil => exact wpAny_assignInOrder_none (k φ lo h s (Step.refl ..) R X (by simpa only [qTs0, qTs1] using q))
    | cons _ _ => simp [wpTs] at q
  | cons Ht he _ ih =>
    intro φ lo h s vs ws K P X R rv q k
    cases rv with
    | nil => simp [wpTs] at q
    | cons rv rvs =>
      simp only [qTs0, qTs1] at q
      rw [he env]
      exact wpAny_assignInOrder_more (Ht A env φ lo h s _ _ _ _ hA X R rv q fun φ₁ lo₁ h₁ s₁ st₁ R₁ X₁ q₁ => ih X₁ R₁ (rvs.step st₁) q₁ fun φ₂ lo₂ h₂ s₂ st₂ R₂ X₂ q₂ => k φ₂ lo₂ h₂ s₂ (st₁.trans st₂ R.five) R₂ X₂ q₂)

theorem postS_next {Q : KR} {φ₁ : List Addr} {lo₁ : Lo} {h₁ : Hp} {s₁ : Shared} (st : Step φ (own env) s s₁ φ₁) (R₁ : Rep hb φ₀ φ₁ h₁ s₁.heap) (X₁ : EnvOK hb cx env φ₁ lo₁ s₁.heap) (q : Q .next lo₁ h₁) : PostS hb φ₀ cx env φ s Q .next s₁ :=
  ⟨φ₁, lo₁, h₁, .next, st, R₁, X₁, rfl, q⟩

theorem swaps_no {e : PySem.Expr} (hn : notComp e = true) (t : Option PySem.Expr) (line : Nat) (env : Env) : swapsWith e t line env = pure false := by
  cases e <;> first | rfl | exact ff hn

theorem ss_asg {t e : PySem.Expr} {p : Pos} {it : T} {ie : E} (hn : notComp e = true) (hnt : ∀ env, swappedStores [t] e env = pure none) (hte : ∀ env, (assignEach [t] env).map (·.2) = [assign t env]) (Ht : STg prog w hb φ₀ C d cx t it) (He : SE prog w hb φ₀ C d cx e ie) :
    SS prog w hb φ₀ C d cx (.Assign [t] e p) (.asg it ie) := by
  intro A env φ lo h s Q hA X R q
  simp only [qS0, qS1, qS2, qS3, qS4, qS5, qS6, qS7, qS8, qS9, qS10, qS11, qS12] at q
  refine wpAny_Assign_stores (ev1 He hA X R q fun φ₁ av a h₁ s₁ st₁ R₁ X₁ ra q₁ => ?_) (swaps_no hn _ _ _) (hnt env)
  rw [hte env]
  exact Ht A env φ₁ lo h₁ s₁ av a _ _ hA X₁ R₁ ra q₁ fun φ₂ lo₂ h₂ s₂ st₂ R₂ X₂ q₂ => postS_next (st₁.own0.trans st₂ R.five) R₂ X₂ q₂

theorem ss_ret {e : PySem.Expr} {p : Pos} {ie : E} (He : SE prog w hb φ₀ C d cx e ie) : SS prog w hb φ₀ C d cx (.Return (some e) p) (.ret ie) := by
  intro A env φ lo h s Q hA X R q
  simp only [qS0, qS1, qS2, qS3, qS4, qS5, qS6, qS7, qS8, qS9, qS10, qS11, qS12] at q
  exact wpAny_Return_some (ev1 He hA X R q fun φ₁ av a h₁ s₁ st₁ R₁ X₁ ra q₁ => ⟨φ₁, lo, h₁, .ret av, st₁.own0, R₁, X₁, ⟨a, rfl, ra⟩, q₁⟩)

theorem ss_bad {st : Stmt} : SS prog w hb φ₀ C d cx st .bad := by
  intro A env φ lo h s Q hA X R q
  simp only [qS0, qS1, qS2, qS3, qS4, qS5, qS6, qS7, qS8, qS9, qS10, qS11, qS12] at q

theorem ss_ife {c : PySem.Expr} {t e : List Stmt} {p : Pos} {ic : E} {it ie : List S} (Hc : ST prog w hb φ₀ C d cx c ic) (Ht : SSs prog w hb φ₀ C d cx t it) (He : SSs prog w hb φ₀ C d cx e ie) : SS prog w hb φ₀ C d cx (.If c t e p) (.ife ic it ie) := by
  intro A env φ lo h s Q hA X R q
  simp only [qS0, qS1, qS2, qS3, qS4, qS5, qS6, qS7, qS8, qS9, qS10, qS11, qS12] at q
  refine wpAny_If (Hc A env φ lo h s _ _ hA X R q fun φ₁ b h₁ s₁ st₁ R₁ X₁ q₁ => ?_)
  cases b with
  | true => exact wpAny_mono (Ht A env φ₁ lo h₁ s₁ Q hA X₁ R₁ q₁) (fun f s₂ p => p.trans R.five st₁.own0) fun _ _ x => x
  | false => exact wpAny_mono (He A env φ₁ lo h₁ s₁ Q hA X₁ R₁ q₁) (fun f s₂ p => p.trans R.five st₁.own0) fun _ _ x => x

theorem ss_aug {x : Str} {np p : Pos} {sl : Nat} {op : Bop} {o : Operator} {e : PySem.Expr} {ie : E} (hc : cSlot cx x = some sl) (ho : bopOf o = some op) (He : SE prog w hb φ₀ C d cx e ie) : SS prog w hb φ₀ C d cx (.AugAssign (.Name x np) o e p) (.aug sl op ie) := by
  intro A env φ lo h s Q hA X R q
  obtain ⟨av, hv, q⟩ := getP_of (o := lo sl) (K := fun a => wpE C ie lo h fun b h => (∃ i, a = V.int i) ∧ bopP op a b h fun v h => Q .next (upd lo sl v) h) q
  · have hk : (cx.names.lookup x = some .local ∨ cx.names.lookup x = some .cell ∨ cx.names.lookup x = some .free) ∧ cx.vars.lookup x = some sl := by
      obtain ⟨h1 | h1, h2⟩ := cSlot_some hc
      · exact ⟨.inl h1, h2⟩
      · exact ⟨.inr (.inl h1), h2⟩
    refine wpAny_AugAssign_Name (load_var hk.1 hk.2 hv X fun wa ra => ev1 He hA X R q fun φ₁ bv b h₁ s₁ st₁ R₁ X₁ rb q₁ => wpAny_mono (iop_sound op o ho R₁ q₁.1 (ra.step st₁) rb q₁.2) (fun r s₂ p => ?_) fun _ _ x => x)
    obtain ⟨φ₂, cv, h₂, st₂, R₂, rc, q₂⟩ := p
    exact store_var hc (X₁.step st₂ (by simp)) R₂ rc fun a s₃ ha st₃ R₃ X₃ => postS_next (((st₁.trans st₂ R.five).own0).trans (st₃.own_mono (by simpa using own_of_cell ha)) R.five) R₃ X₃ q₂

theorem interactive_no (X : EnvOK hb cx env φ lo s.heap) : interactive env = false := by
  unfold interactive
  rw [X.kind]
  rfl

theorem ss_ex {e : PySem.Expr} {p : Pos} {ie : E} (hn : notComp e = true) (He : SE prog w hb φ₀ C d cx e ie) : SS prog w hb φ₀ C d cx (.Expr e p) (.ex ie) := by
  intro A env φ lo h s Q hA X R q
  simp only [qS0, qS1, qS2, qS3, qS4, qS5, qS6, qS7, qS8, qS9, qS10, qS11, qS12] at q
  exact wpAny_Expr_any (ev1 He hA X R q fun φ₁ av a h₁ s₁ st₁ R₁ X₁ ra q₁ => postS_next st₁.own0 R₁ X₁ q₁) (interactive_no X) (swaps_no hn _ _ _)
end
end Mine

set_option linter.unusedVariables false
set_option autoImplicit false
namespace Mine
open PySem PySem.Calls PyProof.Rows

noncomputable def nmOf (line : Nat) (env : Env) : PySem.Expr → Option Str
  | .Name id pos => if env.kindOf id == some .local && pos.line == line then some id else none
  | _ => none
theorem nmOf_some {line : Nat} {env : Env} {t : PySem.Expr} {x : Str} (h : nmOf line env t = some x) : ∃ p, t = .Name x p := by
  unfold nmOf at h
  split at h
  · split at h
    · cases h; exact ⟨_, rfl⟩
    · cases h
  · cases h
noncomputable def swNames (ts : List PySem.Expr) (env : Env) : List Str := ts.filterMap (nmOf ((ts.head?.map (·.pos.line)).getD 0) env)
theorem swappedStores_eq (ts es : List PySem.Expr) (k k' : Nat) (p p' : Pos) (env : Env) : swappedStores [.Tuple ts k p] (.Tuple es k' p') env =
    (if !(ts.length == 2 || ts.length == 3) || es.length != ts.length || env.blockKind != .function then pure none
    else if es.any (fun | .Starred .. => true | _ => false) then pure none
    else if (swNames ts env).length != ts.length || (swNames ts env).eraseDups.length != (swNames ts env).length then pure none
    else if es.all (foldedForSure 8) then pure none
    else if es.all (constantsAlone 8) then unsupported "assign.tuple-of-constant-expressions:order-of-the-stores" else pure (some (swNames ts env))) := by
  rfl

theorem swapped_cases (ts es : List PySem.Expr) (k k' : Nat) (p p' : Pos) (env : Env) (hc : es.all (constantsAlone 8) = false) :
    swappedStores [.Tuple ts k p] (.Tuple es k' p') env = pure none ∨
    (swappedStores [.Tuple ts k p] (.Tuple es k' p') env = pure (some (swNames ts env)) ∧ (ts.length = 2 ∨ ts.length = 3) ∧ es.length = ts.length ∧ (swNames ts env).length = ts.length ∧ (swNames ts env).eraseDups.length = (swNames ts env).length) := by
  rw [swappedStores_eq]
  split
  · exact .inl rfl
  · rename_i h1
    split
    · exact .inl rfl
    · split
      · exact .inl rfl
      · rename_i h3
        split
        · exact .inl rfl
        · rw [if_neg (by rw [hc]; decide)]
          simp only [Bool.or_eq_true, Bool.not_eq_true', Bool.or_eq_false_iff, beq_eq_false_iff_ne, bne_iff_ne, ne_eq, not_or, not_and, Decidable.not_not] at h1 h3
          refine .inr ⟨rfl, ?_, h1.1.2, h3.1, h3.2⟩
          by_cases h2 : ts.length = 2
          · exact .inl h2
          · exact .inr (h1.1.1 h2)

theorem upd_comm {lo : Lo} {a b : Nat} {v u : V} (h : a ≠ b) : upd (upd lo a v) b u = upd (upd lo b u) a v := by
  funext y
  by_cases h1 : y = a
  · subst h1; rw [upd_ne h, upd_eq rfl, upd_eq rfl]
  · by_cases h2 : y = b
    · subst h2; rw [upd_eq rfl, upd_ne h1, upd_eq rfl]
    · rw [upd_ne h2, upd_ne h1, upd_ne h1, upd_ne h2]

theorem upd_rev3 {lo : Lo} {a b c : Nat} {v u x : V} (h1 : c ≠ b) (h2 : c ≠ a) (h3 : b ≠ a) : upd (upd (upd lo c x) b u) a v = upd (upd (upd lo a v) b u) c x := by
  rw [upd_comm h1, upd_comm h2, upd_comm h3]

theorem swNames_two {t1 t2 : PySem.Expr} {env : Env} (h : (swNames [t1, t2] env).length = 2) (hd : (swNames [t1, t2] env).eraseDups.length = (swNames [t1, t2] env).length) :
    ∃ x p y p', t1 = .Name x p ∧ t2 = .Name y p' ∧ swNames [t1, t2] env = [x, y] ∧ x ≠ y := by
  unfold swNames at h hd ⊢
  generalize (([t1, t2] : List PySem.Expr).head?.map (·.pos.line)).getD 0 = line at h hd ⊢
  cases e1 : nmOf line env t1 with
  | none => cases e2 : nmOf line env t2 <;> simp [e1, e2] at h
  | some x => cases e2 : nmOf line env t2 with
    | none => simp [e1, e2] at h
    | some y =>
      obtain ⟨p, rfl⟩ := nmOf_some e1
      obtain ⟨p', rfl⟩ := nmOf_some e2
      refine ⟨x, p, y, p', rfl, rfl, by simp [e1, e2], ?_⟩
      rintro rfl
      simp [e1, e2, List.eraseDups_cons] at hd

theorem swNames_three {t1 t2 t3 : PySem.Expr} {env : Env} (h : (swNames [t1, t2, t3] env).length = 3) (hd : (swNames [t1, t2, t3] env).eraseDups.length = (swNames [t1, t2, t3] env).length) :
    ∃ x p y p' z p'', t1 = .Name x p ∧ t2 = .Name y p' ∧ t3 = .Name z p'' ∧ swNames [t1, t2, t3] env = [x, y, z] ∧ x ≠ y ∧ x ≠ z ∧ y ≠ z := by
  unfold swNames at h hd ⊢
  generalize (([t1, t2, t3] : List PySem.Expr).head?.map (·.pos.line)).getD 0 = line at h hd ⊢
  cases e1 : nmOf line env t1 with
  | none => cases e2 : nmOf line env t2 <;> cases e3 : nmOf line env t3 <;> simp [e1, e2, e3] at h
  | some x => cases e2 : nmOf line env t2 with
    | none => cases e3 : nmOf line env t3 <;> simp [e1, e2, e3] at h
    | some y => cases e3 : nmOf line env t3 with
      | none => simp [e1, e2, e3] at h
      | some z =>
        obtain ⟨p, rfl⟩ := nmOf_some e1
        obtain ⟨p', rfl⟩ := nmOf_some e2
        obtain ⟨p'', rfl⟩ := nmOf_some e3
        refine ⟨x, p, y, p', z, p'', rfl, rfl, rfl, by simp [e1, e2, e3], ?_⟩
        simp only [e1, e2, e3, List.filterMap_cons, List.filterMap_nil] at hd
        refine ⟨?_, ?_, ?_⟩ <;> (rintro rfl; revert hd; simp only [List.eraseDups_cons, List.filter_cons, List.filter_nil, beq_self_eq_true, Bool.not_true, Bool.false_eq_true, if_false])
        · cases hz : z == x <;> simp [List.eraseDups_cons]
        · cases hz : y == x <;> simp [List.eraseDups_cons]
        · cases hz : y == x <;> simp [List.eraseDups_cons]

section
variable {prog : Program} {w : World} {hb : Heap} {φ₀ φ : List Addr} {h : Hp} {s : Shared} {A : Around} {C : Orc} {d : Nat} {cx : Cx} {lo : Lo} {env : Env}

theorem cSlot_var {x : Str} {sl : Nat} (hc : cSlot cx x = some sl) : cx.vars.lookup x = some sl := (cSlot_some hc).2
theorem slots_ne {x y : Str} {a b : Nat} (X : EnvOK hb cx env φ lo s.heap) (hx : cSlot cx x = some a) (hy : cSlot cx y = some b) (hne : x ≠ y) : a ≠ b := by
  rintro rfl
  exact hne (X.inj x y a (cSlot_var hx) (cSlot_var hy))

theorem extBut_keeps {hh hh' : Heap} (e : Heap.ExtBut hh.objs.size hh hh') : ∀ b o, hh.get? b = some o → hh'.get? b = some o := fun b o x => e b o (Nat.ne_of_lt (Heap.lt_size x)) x

theorem bind_ {x : Str} {sl : Nat} {v : V} {wv : Value} {xs : List (Value → Sem Unit)} {ws : List Value} (hc : cSlot cx x = some sl) (X : EnvOK hb cx env φ lo s.heap) (R : Rep hb φ₀ φ h s.heap) (hv : RV φ v wv) {P : Unit → Shared → Prop}
    (k : ∀ s₁, Step φ (own env) s s₁ φ → Rep hb φ₀ φ h s₁.heap → EnvOK hb cx env φ (upd lo sl v) s₁.heap → wpAny (model prog w) A (assignInOrder xs ws) P NoE s₁) :
    wpAny (model prog w) A (assignInOrder ((fun v => bindName env x v) :: xs) (wv :: ws)) P NoE s :=
  wpAny_assignInOrder_more (wpAny_bindName (store_var hc X R hv fun a s₁ ha st R₁ X₁ => k s₁ (st.own_mono (by simpa using own_of_cell ha)) R₁ X₁))

theorem len1 {α : Type} {l : List α} (h : l.length = 1) : ∃ a, l = [a] := List.length_eq_one_iff.mp h
theorem len2 {α : Type} {l : List α} (h : l.length = 2) : ∃ a b, l = [a, b] := by
  cases l with
  | nil => exact nomatch h
  | cons a l => obtain ⟨b, rfl⟩ := len1 (Nat.succ.inj h); exact ⟨a, b, rfl⟩
theorem len3 {α : Type} {l : List α} (h : l.length = 3) : ∃ a b c, l = [a, b, c] := by
  cases l with
  | nil => exact nomatch h
  | cons a l => obtain ⟨b, c, rfl⟩ := len2 (Nat.succ.inj h); exact ⟨a, b, c, rfl⟩
theorem rvs_cons {vs : List V} {w : Value} {ws : List Value} (h : RVs φ vs (w :: ws)) : ∃ v r, vs = v :: r ∧ RV φ v w ∧ RVs φ r ws := by
  cases h with
  | cons a b => exact ⟨_, _, rfl, a, b⟩
theorem rvs_nil {vs : List V} (h : RVs φ vs []) : vs = [] := by cases h; rfl

/-- names that are stored backwards -/
theorem swap_bind {ts : List PySem.Expr} {its : List T} {avs : List V} {as : List Value} {K : Lo → Hp → Prop} {P : Unit → Shared → Prop} (X : EnvOK hb cx env φ lo s.heap) (R : Rep hb φ₀ φ h s.heap) (ra : RVs φ avs as)
    (h23 : ts.length = 2 ∨ ts.length = 3) (hal : as.length = ts.length) (hil : its.length = ts.length) (hnl : (swNames ts env).length = ts.length) (hdd : (swNames ts env).eraseDups.length = (swNames ts env).length)
    (hit : ∀ (i : Nat) (x : Str) (pp : Pos), ts[i]? = some (PySem.Expr.Name x pp) → ∃ sl, cSlot cx x = some sl ∧ its[i]? = some (T.nm sl)) (q : wpTs C its avs lo h K)
    (k : ∀ lo₁ s₁, Step φ (own env) s s₁ φ → Rep hb φ₀ φ h s₁.heap → EnvOK hb cx env φ lo₁ s₁.heap → K lo₁ h → P () s₁) :
    wpAny (model prog w) A (assignInOrder (List.map (fun n => bindName env n) (swNames ts env).reverse) as.reverse) P NoE s := by
  rcases h23 with h2 | h3
  · obtain ⟨w1, w2, rfl⟩ := len2 (hal.trans h2)
    obtain ⟨i1, i2, rfl⟩ := len2 (hil.trans h2)
    obtain ⟨t1, t2, rfl⟩ := len2 h2
    obtain ⟨x, px, y, py, rfl, rfl, hsn, hne⟩ := swNames_two hnl hdd
    rw [hsn]
    obtain ⟨a, ha, hia⟩ := hit 0 x px rfl
    obtain ⟨b, hb', hib⟩ := hit 1 y py rfl
    cases hia
    cases hib
    obtain ⟨v1, _, rfl, r1, ra⟩ := rvs_cons ra
    obtain ⟨v2, _, rfl, r2, ra⟩ := rvs_cons ra
    cases rvs_nil ra
    refine bind_ hb' X R r2 fun s₄ st₄ R₄ X₄ => bind_ ha X₄ R₄ r1 fun s₅ st₅ R₅ X₅ => wpAny_assignInOrder_none (k _ _ (st₄.trans st₅ R.five) R₅ X₅ ?_)
    rw [upd_comm (slots_ne X hb' ha (Ne.symm hne))]; exact q
  · obtain ⟨w1, w2, w3, rfl⟩ := len3 (hal.trans h3)
    obtain ⟨i1, i2, i3, rfl⟩ := len3 (hil.trans h3)
    obtain ⟨t1, t2, t3, rfl⟩ := len3 h3
    obtain ⟨x, px, y, py, z, pz, rfl, rfl, rfl, hsn, hxy, hxz, hyz⟩ := swNames_three hnl hdd
    rw [hsn]
    obtain ⟨a, ha, hia⟩ := hit 0 x px rfl
    obtain ⟨b, hb', hib⟩ := hit 1 y py rfl
    obtain ⟨c, hc, hic⟩ := hit 2 z pz rfl
    cases hia
    cases hib
    cases hic
    obtain ⟨v1, _, rfl, r1, ra⟩ := rvs_cons ra
    obtain ⟨v2, _, rfl, r2, ra⟩ := rvs_cons ra
    obtain ⟨v3, _, rfl, r3, ra⟩ := rvs_cons ra
    cases rvs_nil ra
    refine bind_ hc X R r3 fun s₄ st₄ R₄ X₄ => bind_ hb' X₄ R₄ r2 fun s₅ st₅ R₅ X₅ => bind_ ha X₅ R₅ r1 fun s₆ st₆ R₆ X₆ => wpAny_assignInOrder_none (k _ _ ((st₄.trans st₅ R.five).trans st₆ R.five) R₆ X₆ ?_)
    rw [upd_rev3 (slots_ne X hc hb' (Ne.symm hyz)) (slots_ne X hc ha (Ne.symm hxz)) (slots_ne X hb' ha (Ne.symm hxy))]; exact q

theorem ss_asgT {ts es : List PySem.Expr} {k k' : Nat} {tp p' p : Pos} {its : List T} {ies : List E} (hca : es.all (constantsAlone 8) = false) (hn : es.length ≤ 100)
    (hle : ts.length = es.length) (hit : ∀ (i : Nat) (x : Str) (pp : Pos), ts[i]? = some (PySem.Expr.Name x pp) → ∃ sl, cSlot cx x = some sl ∧ its[i]? = some (T.nm sl))
    (Ht : STgs prog w hb φ₀ C d cx ts its) (He : SEs prog w hb φ₀ C d cx es ies) :
    SS prog w hb φ₀ C d cx (.Assign [.Tuple ts k tp] (.Tuple es k' p') p) (.asgT its ies) := by
  intro A env φ lo h s Q hA X R q
  simp only [qS0, qS1, qS2, qS3, qS4, qS5, qS6, qS7, qS8, qS9, qS10, qS11, qS12] at q
  have hbig : big = 16777216 := rfl
  have hsl : sizeLine = 16777216 := rfl
  -- the tuple is made
  have mk : ∀ {P : Value → Shared → Prop}, (∀ φ₁ avs as h₁ (s₂ : Shared) (T : Addr), Step φ [] s s₂ φ₁ → Rep hb φ₀ φ₁ h₁ s₂.heap → EnvOK hb cx env φ₁ lo s₂.heap → RVs φ₁ avs as → avs.length = es.length → s₂.heap.IsTuple T as.toArray →
      wpTs C its avs lo h₁ (fun lo h => Q .next lo h) → P (.ref T) s₂) → wpAny (model prog w) A (eval (.Tuple es k' p') env) P NoE s := by
    intro P kk
    refine wpAny_Tuple_spliced (evs_len He hA p' X R q fun φ₁ avs as h₁ s₁ st₁ R₁ X₁ ra hl q₁ => ?_)
    refine ⟨by rw [← ra.len]; omega, ?_⟩
    have kp : ∀ b o, s₁.heap.get? b = some o → (s₁.heap.push { cls := .type "tuple", data := .seq as.toArray }).get? b = some o := fun b o e => Heap.get?_push_of_some _ e
    exact kk φ₁ avs as h₁ { s₁ with heap := _ } _ (st₁.trans (Step.of_keeps _ s₁.toks kp) R.five) (R₁.keeps kp) (X₁.keeps kp) ra hl ⟨_, Heap.get?_push_size _ rfl, rfl, 0, rfl⟩ q₁
  have lens := stgs_len Ht env
  rcases swapped_cases ts es k k' tp p' env hca with hw | ⟨hw, h23, _, hnl, hdd⟩
  · refine PyProof.Rows.Assign_Tuple (mk fun φ₁ avs as h₁ s₂ T st₂ R₂ X₂ ra hl hT q₁ => ?_) rfl hw
    have hlen : ts.length = as.length := by rw [← ra.len, hl, hle]
    refine wpAny_assign_Tuple hA.1 hT (by rw [lens.1, List.size_toArray, hlen]) lens.2.2 fun h' he => ?_
    have kp := extBut_keeps he
    exact assigns Ht hA (s := { s₂ with heap := h' }) (X₂.keeps kp) (R₂.keeps kp) ra q₁ fun φ₃ lo₃ h₃ s₃ st₃ R₃ X₃ q₃ => postS_next (((st₂.trans (Step.of_keeps h' s₂.toks kp) R.five).own0).trans st₃ R.five) R₃ X₃ q₃
  · refine PyProof.Rows.Assign_Tuple_swapped (mk fun φ₁ avs as h₁ s₂ T st₂ R₂ X₂ ra hl hT q₁ => ?_) rfl hw
    have hlen : (swNames ts env).length = as.toArray.size := by rw [hnl, hle, ← hl, ra.len, List.size_toArray]
    rw [hlen]
    refine wpAny_unpackItems_tuple hA.1 hT fun h' he => ?_
    have kp := extBut_keeps he
    have X₃ : EnvOK hb cx env φ₁ lo h' := X₂.keeps kp
    have R₃ : Rep hb φ₀ φ₁ h₁ h' := R₂.keeps kp
    have st₃ : Step φ (own env) s { s₂ with heap := h' } φ₁ := (st₂.trans (Step.of_keeps h' s₂.toks kp) R.five).own0
    have hlas : as.length = ts.length := by rw [← ra.len, hl, hle]
    exact swap_bind (s := { s₂ with heap := h' }) X₃ R₃ ra h23 hlas (lens.2.1) hnl hdd hit q₁ fun lo₁ s₁ st R₁ X₁ q => postS_next (st₃.trans st R.five) R₁ X₁ q
end
end Mine

set_option linter.unusedVariables false
set_option autoImplicit false
namespace Mine
open PySem PySem.Calls PyProof.Rows

section
variable {prog : Program} {w : World} {hb : Heap} {φ₀ φ : List Addr} {h : Hp} {s : Shared} {A : Around} {C : Orc} {d : Nat} {cx : Cx} {lo : Lo} {env : Env}

theorem wpTs_nm_len {ss : List Nat} : ∀ {vs : List V} {lo : Lo} {h : Hp} {K : Lo → Hp → Prop}, wpTs C (ss.map .nm) vs lo h K → ss.length = vs.length := by
  induction ss with
  | nil => intro vs lo h K q; cases vs <;> simp [wpTs] at q ⊢
  | cons a ss ih =>
    intro vs lo h K q
    cases vs with
    | nil => simp [wpTs] at q
    | cons v vs =>
      simp only [List.map_cons, qTs0, qTs1, qT0, qT1] at q
      simp [ih q]

theorem soles_no {e : PySem.Expr} (hn : notComp e = true) (t : PySem.Expr) (line : Nat) (env : Env) : swapsWithSole [t] e line env = pure false := by
  unfold swapsWithSole; exact swaps_no hn _ _ _

theorem ss_unp {ts : List PySem.Expr} {e : PySem.Expr} {k : Nat} {tp p : Pos} {ss : List Nat} {ie : E} (hn : notComp e = true) (hw : ∀ env, swappedStores [.Tuple ts k tp] e env = pure none) (Ht : STgs prog w hb φ₀ C d cx ts (ss.map .nm)) (He : SE prog w hb φ₀ C d cx e ie) :
    SS prog w hb φ₀ C d cx (.Assign [.Tuple ts k tp] e p) (.unp ss ie) := by
  intro A env φ lo h s Q hA X R q
  simp only [qS0, qS1, qS2, qS3, qS4, qS5, qS6, qS7, qS8, qS9, qS10, qS11, qS12] at q
  refine PyProof.Rows.Assign_Tuple (ev1 He hA X R q fun φ₁ av a h₁ s₁ st₁ R₁ X₁ ra q₁ => ?_) (soles_no hn _ _ _) (hw env)
  obtain ⟨i, vs, e, hi, q₂⟩ := tupP_some q₁
  subst e
  · · obtain ⟨l, hl, rfl⟩ := ra
      obtain ⟨l', hl', ws, hx, hr, hT⟩ := R₁.obj _ _ hi
      rw [hl] at hl'; cases hl'
      have lens := stgs_len Ht env
      have hlen := wpTs_nm_len q₂
      have hlm : ts.length = ss.length := by rw [← lens.2.1, List.length_map]
      refine wpAny_assign_Tuple hA.1 hT (by rw [lens.1, List.size_toArray, ← hr.len, hlm, hlen]) lens.2.2 fun h' he => ?_
      have kp := extBut_keeps he
      exact assigns Ht hA (s := { s₁ with heap := h' }) (X₁.keeps kp) (R₁.keeps kp) hr q₂ fun φ₃ lo₃ h₃ s₃ st₃ R₃ X₃ q₃ => postS_next (((st₁.trans (Step.of_keeps h' s₁.toks kp) R.five).own0).trans st₃ R.five) R₃ X₃ q₃

theorem ss_app {o v : PySem.Expr} {ap p p' : Pos} {io iv : E} (hbase : ∀ env, attributeBase o nAppend env (eval o env) = eval o env) (hline : (ap.endLine == p.line) = true) (hst : ∀ env, starEach [v] env = [(false, eval v env)])
    (Ho : SE prog w hb φ₀ C d cx o io) (Hv : SE prog w hb φ₀ C d cx v iv) : SS prog w hb φ₀ C d cx (.Expr (.Call (.Attribute o nAppend ap) [v] [] p) p') (.app io iv) := by
  intro A env φ lo h s Q hA X R q
  simp only [qS0, qS1, qS2, qS3, qS4, qS5, qS6, qS7, qS8, qS9, qS10, qS11, qS12] at q
  have htrees : backTo p (starEach [v] env) = [(false, eval v env)] := by rw [hst env]; rfl
  refine wpAny_Expr_any ?_ (interactive_no X) rfl
  refine wpAny_Call_append (hbase env) (by rw [htrees]; rfl) hline htrees (ev1 Ho hA X R q fun φ₁ av a h₁ s₁ st₁ R₁ X₁ ra q₁ => ?_)
  obtain ⟨hnew, q₁⟩ := q₁
  obtain ⟨i, l, xs, ws, rfl, rfl, hi, hl, hx, hr, hL, q₂⟩ := rep_list R₁ ra q₁
  obtain ⟨its, n, hp⟩ := R₁.plain i xs l hnew hi hl
  refine ⟨l, its, rfl, ⟨_, n, hp, rfl, rfl, rfl⟩, ev1 Hv hA X₁ R₁ q₂ fun φ₂ bv b h₂ s₂ st₂ R₂ X₂ rb q₃ => ?_⟩
  obtain ⟨i', ys, e, hi', ⟨h5, hlt⟩, q₄⟩ := appP_some q₃
  cases e
  obtain ⟨l₂, hl₂, e⟩ := ra.step st₂
  cases e
  obtain ⟨its₂, n₂, hp₂⟩ := R₂.plain i ys l h5 hi' hl₂
  obtain ⟨l₃, hl₃, ws₂, hx₂, hr₂, o', ho', hc', n₃, hd'⟩ := R₂.obj _ _ hi'
  rw [hl₂] at hl₃; cases hl₃
  rw [hp₂] at ho'; cases ho'
  cases hd'
  have hbig : big = 16777216 := rfl
  have hsl : sizeLine = 16777216 := rfl
  have hlen := hr₂.len
  refine wpAny_list_append_plain (items := ws₂.toArray) ⟨n₂, hp₂⟩ (fun h' hp' hsame => ?_) (by simp; omega)
  have hil : i < h₂.length := (List.getElem?_eq_some_iff.mp hi').1
  have hlm : l ∈ φ₂.drop ro := by
    refine List.mem_of_getElem? (i := i - ro) ?_
    rw [List.getElem?_drop, show ro + (i - ro) = i by omega]; exact hl₂
  have hp'' : h'.PlainList l (ws₂ ++ [b]).toArray := by simpa using hp'
  have R₃ : Rep hb φ₀ φ₂ (h₂.set i (.L (ys ++ [bv]))) h' :=
    R₂.set h5 hil hl₂ (fun b o hb e => (hsame.2 b hb).trans e) (by simp; omega) (hr₂.append (.cons rb .nil)) hp''
  have st₃ : Step φ₂ [] s₂ { s₂ with heap := h' } φ₂ :=
    ⟨⟨_, s₂.toks, rfl⟩, ⟨[], by simp, by simp⟩, fun b o hb _ e => (hsame.2 b (by rintro rfl; exact hb hlm)).trans e, fun b o e => by
      by_cases hbl : b = l
      · subst hbl; obtain ⟨n, e⟩ := hp'; exact ⟨_, e⟩
      · exact ⟨o, (hsame.2 b hbl).trans e⟩⟩
  exact postS_next ((st₁.trans st₂ R.five).trans st₃ R.five).own0 R₃ (X₂.step st₃ (by simp)) q₄

theorem ss_whl {c : PySem.Expr} {b : List Stmt} {p : Pos} {ic : E} {ib : List S} (Hc : ST prog w hb φ₀ C d cx c ic) (Hb : SSs prog w hb φ₀ C d cx b ib) : SS prog w hb φ₀ C d cx (.While c b [] p) (.whl ic ib) := by
  intro A env φ lo h s Q hA X R q
  simp only [qS0, qS1, qS2, qS3, qS4, qS5, qS6, qS7, qS8, qS9, qS10, qS11, qS12] at q
  obtain ⟨n, q⟩ := q
  refine wpAny_While (codeAny_whileLoop (fun n s' => ∃ φ₁ lo₁ h₁, Step φ (own env) s s' φ₁ ∧ Rep hb φ₀ φ₁ h₁ s'.heap ∧ EnvOK hb cx env φ₁ lo₁ s'.heap ∧
    whileP (fun lo h K => wpE C ic lo h fun v h => boolP v fun b => K b h) (fun lo h K => wpSs C ib lo h K) n lo₁ h₁ Q) ?_ n ⟨φ, lo, h, Step.refl .., R, X, q⟩)
  rintro n s₁ ⟨φ₁, lo₁, h₁, st₁, R₁, X₁, q₁⟩
  cases n with
  | zero => exact q₁.elim
  | succ n =>
    simp only [whileP] at q₁
    refine wpAny_mono (Hc A env φ₁ lo₁ h₁ s₁ _ _ hA X₁ R₁ q₁ fun φ₂ b h₂ s₂ st₂ R₂ X₂ q₂ => ?_) (fun _ _ x => x) fun _ _ x => x.elim
    cases b with
    | true =>
      refine wpAny_mono (Hb A env φ₂ lo₁ h₂ s₂ _ hA X₂ R₂ q₂) (fun f s₃ p => ?_) fun _ _ x => x.elim
      obtain ⟨φ₃, lo₃, h₃, r, st₃, R₃, X₃, fr, q₃⟩ := p
      have st := (st₁.trans st₂.own0 R.five).trans st₃ R.five
      cases r with
      | next =>
        have fr : f = .next := fr
        subst fr
        exact ⟨n, Nat.lt_succ_self _, φ₃, lo₃, h₃, st, R₃, X₃, q₃⟩
      | ret v =>
        obtain ⟨wv, rfl, rv⟩ := fr
        exact ⟨φ₃, lo₃, h₃, .ret v, st, R₃, X₃, ⟨wv, rfl, rv⟩, q₃⟩
    | false => exact wpAny_execs_nil (postS_next (st₁.trans st₂.own0 R.five) R₂ X₂ q₂)

/-! ## for -/
/-- how a loop takes its next item -/
structure Take (prog : Program) (w : World) (A : Around) (hb : Heap) (φ₀ φb : List Addr) (cx : Cx) (env : Env) (target : PySem.Expr) (I : Addr) {α : Type} (items : List α) (bnd : α → Lo → Lo) (chk : Hp → Prop) (at_ : Nat → Heap → Prop)
    (s₀ : Shared) (T : List Addr) : Prop where
  frame : ∀ k hh hh', at_ k hh → (∀ a ∈ T, ∀ o, hh.get? a = some o → hh'.get? a = some o) → at_ k hh'
  off : ∀ k hh φ h, at_ k hh → Rep hb φ₀ φ h hh → ∀ a ∈ T, a ∉ φ
  offOwn : ∀ a ∈ T, a ∉ own env
  item : ∀ (k : Nat) (t : List Addr) (lo : Lo) (h : Hp) (s : Shared) (x : α) (Next : Shared → Prop), items[k]? = some x → Step φb (own env) s₀ s (φb ++ t) → Rep hb φ₀ (φb ++ t) h s.heap → EnvOK hb cx env (φb ++ t) lo s.heap → chk h → at_ k s.heap →
    (∀ s₂, Step φb (own env) s₀ s₂ (φb ++ t) → Rep hb φ₀ (φb ++ t) h s₂.heap → EnvOK hb cx env (φb ++ t) (bnd x lo) s₂.heap → at_ (k + 1) s₂.heap → Next s₂) →
    wpAny (model prog w) A (pyNext (.ref I)) (fun r s₁ => match r with
      | none => False
      | some v => wpAny (model prog w) A (letOwnedTupleGo target (.ref I) v) (fun _ s₁' => wpAny (model prog w) A (assign target env v) (fun _ s₂ => Next s₂) NoE s₁') NoE s₁) NoE s
  done : ∀ (t : List Addr) (lo : Lo) (h : Hp) (s : Shared) (End : Shared → Prop), Step φb (own env) s₀ s (φb ++ t) → Rep hb φ₀ (φb ++ t) h s.heap → EnvOK hb cx env (φb ++ t) lo s.heap → chk h → at_ items.length s.heap →
    (∀ s₂, Step φb (own env) s₀ s₂ (φb ++ t) → Rep hb φ₀ (φb ++ t) h s₂.heap → EnvOK hb cx env (φb ++ t) lo s₂.heap → End s₂) →
    wpAny (model prog w) A (pyNext (.ref I)) (fun r s₁ => match r with
      | none => End s₁
      | some _ => False) NoE s

theorem for_loop {φb : List Addr} {target : PySem.Expr} {I : Addr} {α : Type} {items : List α} {bnd : α → Lo → Lo} {chk : Hp → Prop} {at_ : Nat → Heap → Prop} {s₀ : Shared} {T : List Addr} (tk : Take prog w A hb φ₀ φb cx env target I items bnd chk at_ s₀ T)
    (hA : AOk d A) {b : List Stmt} {ib : List S} (Hb : SSs prog w hb φ₀ C d cx b ib) (h5 : ro ≤ φb.length) {Q : KR} {Rr : Result → Shared → Prop} (hR : ∀ f s', PostS hb φ₀ cx env φb s₀ Q f s' → Rr (.ok f) s')
    {t : List Addr} (st : Step φb (own env) s₀ s (φb ++ t)) (R : Rep hb φ₀ (φb ++ t) h s.heap) (X : EnvOK hb cx env (φb ++ t) lo s.heap) (hat : at_ 0 s.heap) (q : forP chk (fun x lo h K => wpSs C ib (bnd x lo) h K) items lo h Q) :
    codeAny (model prog w) A (.forLoop target (.ref I) b [] env) Rr s := by
  refine codeAny_forLoop_any (fun n s' => ∃ k t lo h, n = items.length - k ∧ k ≤ items.length ∧ Step φb (own env) s₀ s' (φb ++ t) ∧ Rep hb φ₀ (φb ++ t) h s'.heap ∧ EnvOK hb cx env (φb ++ t) lo s'.heap ∧ at_ k s'.heap ∧
    forP chk (fun x lo h K => wpSs C ib (bnd x lo) h K) (items.drop k) lo h Q) ?_ items.length ⟨0, t, lo, h, by simp, Nat.zero_le _, st, R, X, hat, q⟩
  rintro n s₁ ⟨k, t, lo, h, rfl, hk, st, R, X, hat, q⟩
  rcases Nat.lt_or_ge k items.length with hlt | hge
  · rw [List.drop_eq_getElem_cons hlt] at q
    obtain ⟨hc, q⟩ := q
    refine wpAny_mono (tk.item k t lo h s₁ items[k] (fun s₂ => wpAny (model prog w) A (execs b env) (fun f s₃ => match f with
          | .next | .cont => ∃ m, m < items.length - k ∧ ∃ k t lo h, m = items.length - k ∧ k ≤ items.length ∧ Step φb (own env) s₀ s₃ (φb ++ t) ∧ Rep hb φ₀ (φb ++ t) h s₃.heap ∧ EnvOK hb cx env (φb ++ t) lo s₃.heap ∧ at_ k s₃.heap ∧
            forP chk (fun x lo h K => wpSs C ib (bnd x lo) h K) (items.drop k) lo h Q
          | .brk => Rr (.ok .next) s₃
          | .ret v => Rr (.ok (.ret v)) s₃) NoE s₂) (by simp [hlt]) st R X hc hat fun s₂ st₂ R₂ X₂ hat₂ => ?_) (fun r s₂ hr => ?_) fun _ _ x => x.elim
    · refine wpAny_mono (Hb A env (φb ++ t) (bnd items[k] lo) h s₂ _ hA X₂ R₂ q) (fun f s₃ p => ?_) fun _ _ x => x
      obtain ⟨φ₃, lo₃, h₃, r, st₃, R₃, X₃, fr, q₃⟩ := p
      have sT := st₂.trans st₃ h5
      obtain ⟨ψ, rfl, hψ⟩ := st₃.pre
      cases r with
      | next =>
        have fr : f = .next := fr
        subst fr
        refine ⟨items.length - (k + 1), by omega, k + 1, t ++ ψ, lo₃, h₃, rfl, hlt, ?_, ?_, ?_, ?_, q₃⟩
        · rw [← List.append_assoc]; exact sT
        · rw [← List.append_assoc]; exact R₃
        · rw [← List.append_assoc]; exact X₃
        · exact tk.frame _ _ _ hat₂ fun a ha o e => st₃.frame a o (fun hm => tk.off _ _ _ _ hat₂ R₂ a ha (List.mem_of_mem_drop hm)) (tk.offOwn a ha) e
      | ret v =>
        obtain ⟨wv, rfl, rv⟩ := fr
        exact hR _ _ ⟨_, lo₃, h₃, .ret v, sT, R₃, X₃, ⟨wv, rfl, rv⟩, q₃⟩
    · cases r with
      | none => exact hr.elim
      | some v => exact wpAny_mono hr (fun _ s₃ h₃ => wpAny_mono h₃ (fun _ s₄ h₄ => wpAny_mono h₄ (fun _ _ x => x) fun _ _ x => x.elim) fun _ _ x => x.elim) fun _ _ x => x.elim
  · have hke : k = items.length := Nat.le_antisymm hk hge
    subst hke
    have hd0 : items.drop items.length = [] := List.drop_length
    rw [hd0] at q
    obtain ⟨hc, q⟩ := q
    refine wpAny_mono (tk.done t lo h s₁ (fun s₂ => PostS hb φ₀ cx env φb s₀ Q .next s₂) st R X hc hat fun s₂ st₂ R₂ X₂ => postS_next st₂ R₂ X₂ q) (fun r s₂ hr => ?_) fun _ _ x => x.elim
    cases r with
    | none => exact wpAny_execs_nil (hR _ _ hr)
    | some v => exact hr.elim

/-- the step behind a touch of the loop's own objects -/
theorem Step.touchO {φ₁ T : List Addr} {s₀ s₁ : Shared} {hh : Heap} {tk : Nat} {lo : Lo} (x : Step φ (own env) s₀ s₁ φ₁) (k : ∀ b o, b ∉ T → s₁.heap.get? b = some o → hh.get? b = some o)
    (hT : ∀ a ∈ T, s₀.heap.get? a = none) (R : Rep hb φ₀ φ₁ h hh) (X : EnvOK hb cx env φ₁ lo hh) : Step φ (own env) s₀ { s₁ with heap := hh, toks := tk } φ₁ := by
  have fr : ∀ b o, b ∉ φ.drop ro → b ∉ own env → s₀.heap.get? b = some o → hh.get? b = some o := fun b o hb ho e =>
    k b o (fun hm => by rw [hT b hm] at e; cases e) (x.frame b o hb ho e)
  obtain ⟨⟨hh', tk', rfl⟩, ⟨ψ, rfl, hψ⟩, _, _⟩ := x
  refine ⟨⟨_, _, rfl⟩, ⟨ψ, rfl, hψ⟩, fr, fun b o e => ?_⟩
  by_cases hb : b ∈ φ.drop ro
  · exact R.live (List.mem_append_left _ (List.mem_of_mem_drop hb))
  · by_cases ho : b ∈ own env
    · exact X.live b ho
    · exact ⟨o, fr b o hb ho e⟩

theorem take_name {φb : List Addr} {x : Str} {px : Pos} {sl : Nat} {I : Addr} {items : List V} {chk : Hp → Prop} {at_ : Nat → Heap → Prop} {s₀ : Shared} (it : Itr prog w A hb φ₀ φb I items chk at_) (hx : cSlot cx x = some sl)
    (h5 : ro ≤ φb.length) (hI0 : s₀.heap.get? I = none) (hIo : I ∉ own env) (hIb : hb.get? I = none) : Take prog w A hb φ₀ φb cx env (.Name x px) I items (fun v lo => upd lo sl v) chk at_ s₀ [I] where
  frame := fun k a b h e => it.frame k a b h fun o x => e I (List.mem_singleton_self _) o x
  off := fun k hh φ h hat R a ha => by rw [List.mem_singleton] at ha; subst ha; exact it.off hat R
  offOwn := fun a ha => by rw [List.mem_singleton] at ha; subst ha; exact hIo
  item := fun k t lo h s v Next hv st R X hc hat kk => by
    have hIφ := it.off hat R
    refine wpAny_mono (it.item k t h s v _ hv R hc hat fun wv hh tk rv hat' hk' => ?_) (fun _ _ x => x) fun _ _ x => x
    have R₂ : Rep hb φ₀ (φb ++ t) h hh := R.keep fun b o hb' e => hk' b o (by
      rintro rfl
      rcases hb' with h1 | h1
      · exact hIφ h1
      · rw [hIb] at h1; cases h1) e
    have X₂ : EnvOK hb cx env (φb ++ t) lo hh := X.keepOwn fun a ha o e => hk' a o (fun e' => hIo (e' ▸ ha)) e
    have st₂ : Step φb (own env) s₀ { s with heap := hh, toks := tk } (φb ++ t) := st.touchO (T := [I]) (fun b o hb e => hk' b o (by simpa using hb) e) (by simpa using hI0) R₂ X₂
    have hgo : letOwnedTupleGo (.Name x px) (.ref I) wv = pure () := rfl
    show wpAny _ A (letOwnedTupleGo (.Name x px) (.ref I) wv) _ _ _
    rw [hgo]
    refine wpAny_pure (wpAny_assign_Name (store_var (s := { s with heap := hh, toks := tk }) hx X₂ R₂ rv fun a s₃ ha st₃ R₃ X₃ => ?_))
    have hao := own_of_cell ha
    exact kk s₃ (st₂.trans (st₃.own_mono (by simpa using hao)) h5) R₃ X₃ (it.frame _ _ _ hat' fun o e => st₃.frame I o (fun hm => hIφ (List.mem_of_mem_drop hm)) (by simp; rintro rfl; exact hIo hao) e)
  done := fun t lo h s End st R X hc hat kk => by
    have hIφ := it.off hat R
    refine wpAny_mono (it.done t h s _ R hc hat fun hh tk hk' => ?_) (fun _ _ x => x) fun _ _ x => x
    have R₂ : Rep hb φ₀ (φb ++ t) h hh := R.keep fun b o hb' e => hk' b o (by
      rintro rfl
      rcases hb' with h1 | h1
      · exact hIφ h1
      · rw [hIb] at h1; cases h1) e
    have X₂ : EnvOK hb cx env (φb ++ t) lo hh := X.keepOwn fun a ha o e => hk' a o (fun e' => hIo (e' ▸ ha)) e
    exact kk _ (st.touchO (T := [I]) (fun b o hb e => hk' b o (by simpa using hb) e) (by simpa using hI0) R₂ X₂) R₂ X₂
end
end Mine

set_option linter.unusedVariables false
set_option autoImplicit false
namespace Mine
open PySem PySem.Calls PyProof.Rows

section
variable {prog : Program} {w : World} {hb : Heap} {φ₀ φ : List Addr} {h : Hp} {s : Shared} {A : Around} {C : Orc} {d : Nat} {cx : Cx} {lo : Lo} {env : Env}

theorem forP_map {α β : Type} {chk : Hp → Prop} {f : β → Lo → Hp → KR → Prop} {g : α → β} (xs : List α) : ∀ (lo : Lo) (h : Hp) (K : KR), forP chk (fun a => f (g a)) xs lo h K = forP chk f (xs.map g) lo h K := by
  induction xs with
  | nil => intro lo h K; rfl
  | cons x xs ih =>
    intro lo h K
    simp only [List.map_cons, forP]
    congr 2
    funext r lo h
    cases r with
    | next => exact ih lo h K
    | ret u => rfl

theorem own_lt (X : EnvOK hb cx env φ lo s.heap) {a : Addr} (ha : s.heap.objs.size ≤ a) : a ∉ own env := fun hm => by
  obtain ⟨o, e⟩ := X.live a hm
  exact absurd (Heap.lt_size e) (Nat.not_lt.mpr ha)
theorem get_ge {hh : Heap} {a : Addr} (ha : hh.objs.size ≤ a) : hh.get? a = none := by
  cases e : hh.get? a with
  | none => rfl
  | some o => exact absurd (Heap.lt_size e) (Nat.not_lt.mpr ha)

theorem ss_for {iter : PySem.Expr} {x : Str} {px p : Pos} {sl : Nat} {b : List Stmt} {is : S} {ib : List S} {src : Lo → Hp → (List V → (Hp → Prop) → Hp → Prop) → Prop} (Hsrc : SrcOk prog w hb φ₀ d cx iter src) (hset : ∀ env x, foldedSetIterable iter env x = pure x)
    (hx : cSlot cx x = some sl) (Hb : SSs prog w hb φ₀ C d cx b ib) (hw : ∀ lo h Q, wpS C is lo h Q → src lo h fun xs chk h => forP chk (fun v lo h K => wpSs C ib (upd lo sl v) h K) xs lo h Q) :
    SS prog w hb φ₀ C d cx (.For (.Name x px) iter b [] p) is := by
  intro A env φ lo h s Q hA X R q
  refine wpAny_For (wpAny_mono (Hsrc A env φ lo h s _ hA X R (hw lo h Q q)) (fun x₀ s' hx₀ => wpAny_mono hx₀ (fun it s₂ hit => ?_) fun _ _ x => x) fun _ _ x => x) (hset env)
  obtain ⟨φ₁, h₁, s₁, items, chk, at_, o, rfl, st₁, R₁, X₁, rfl, itr, hat, hlen, q₁⟩ := hit
  have kp : ∀ b o', s₁.heap.get? b = some o' → (s₁.heap.push o).get? b = some o' := fun b o' e => Heap.get?_push_of_some _ e
  have tk := take_name (px := px) itr hx R₁.five (s₀ := s₁) (get_ge (Nat.le_refl _)) (own_lt X₁ (Nat.le_refl _)) (R₁.fresh (get_ge (Nat.le_refl _)))
  refine for_loop tk hA Hb R₁.five (Q := Q) (fun f s' p => p.trans R.five st₁.own0) (t := []) (h := h₁) (lo := lo) ?_ ?_ ?_ hat q₁
  · rw [List.append_nil]; exact Step.of_keeps _ s₁.toks kp
  · rw [List.append_nil]; exact R₁.keeps kp
  · rw [List.append_nil]; exact X₁.keeps kp

theorem zipIdx_get {xs : List V} {k : Nat} {p : V × Nat} (h : xs.zipIdx[k]? = some p) : xs[k]? = some p.1 ∧ p.2 = k := by
  rw [List.getElem?_zipIdx] at h
  obtain ⟨a, ha, rfl⟩ := Option.map_eq_some_iff.mp h
  exact ⟨ha, by simp⟩

theorem take_enum {φb : List Addr} {x y : Str} {px py tp : Pos} {kk : Nat} {s1 s2 : Nat} {e it l : Addr} {i : Nat} {xs : List V} {s₀ : Shared} (hA : AOk d A) (hl : φb[i]? = some l) (hx : cSlot cx x = some s1) (hy : cSlot cx y = some s2)
    (h5 : ro ≤ φb.length) (hne : e ≠ it) (he0 : s₀.heap.get? e = none) (hi0 : s₀.heap.get? it = none) (heo : e ∉ own env) (hio : it ∉ own env) (heb : hb.get? e = none) (hib : hb.get? it = none) :
    Take prog w A hb φ₀ φb cx env (.Tuple [.Name x px, .Name y py] kk tp) e xs.zipIdx (fun (p : V × Nat) lo => upd (upd lo s1 (.int p.2)) s2 p.1) (isListAt (.ref i) xs)
      (fun k hh => ∃ old, IsEnum hh e it ((k : Nat) : Int) old ∧ hh.IsListIter it l k) s₀ [e, it] where
  frame := fun k a b ⟨old, h1, h2⟩ ke => ⟨old, ke e (by simp) _ h1, h2.at fun o q => ke it (by simp) o q⟩
  off := fun k hh φ h ⟨old, h1, h2⟩ R a ha hm => by
    obtain ⟨j, hj⟩ := List.getElem?_of_mem hm
    have hlj := (List.getElem?_eq_some_iff.mp hj).1
    rw [R.len] at hlj
    obtain ⟨a', ha', r⟩ := R.obj j h[j] (by simp [hlj])
    rw [hj] at ha'; cases ha'
    have hcls : ∃ o, hh.get? a = some o ∧ o.cls ≠ .type "list" ∧ o.cls ≠ .type "tuple" := by
      simp only [List.mem_cons, List.not_mem_nil, or_false] at ha
      rcases ha with rfl | rfl
      · exact ⟨_, h1, by show Value.type "enumerate" ≠ _; decide, by show Value.type "enumerate" ≠ _; decide⟩
      · obtain ⟨o, q, hc, _⟩ := h2; exact ⟨o, q, by rw [hc]; decide, by rw [hc]; decide⟩
    obtain ⟨o, ho, n1, n2⟩ := hcls
    generalize h[j] = ob at r
    cases ob with
    | L xs => obtain ⟨ws, _, _, o', q, hc, _⟩ := r; rw [ho] at q; cases q; exact n1 hc
    | T xs => obtain ⟨ws, _, _, o', q, hc, _⟩ := r; rw [ho] at q; cases q; exact n2 hc
  offOwn := fun a ha => by
    simp only [List.mem_cons, List.not_mem_nil, or_false] at ha
    rcases ha with rfl | rfl
    · exact heo
    · exact hio
  item := fun k t lo h s p Next hp st R X hc ⟨old, hE, hI⟩ kk' => by
    obtain ⟨hv, hk⟩ := zipIdx_get hp
    have hc : h[i]? = some (.L xs) := hc
    obtain ⟨a, ha, ws, _, hr, hL⟩ := R.obj _ _ hc
    rw [List.getElem?_append_left (List.getElem?_eq_some_iff.mp hl).1, hl] at ha; cases ha
    obtain ⟨wv, hw, rv⟩ := hr.get k _ hv
    have notφ : ∀ b, (∃ o, s.heap.get? b = some o ∧ o.cls ≠ .type "list" ∧ o.cls ≠ .type "tuple") → b ∉ φb ++ t := by
      rintro b ⟨o, ho, n1, n2⟩ hm
      obtain ⟨j, hj⟩ := List.getElem?_of_mem hm
      have hlj := (List.getElem?_eq_some_iff.mp hj).1
      rw [R.len] at hlj
      obtain ⟨a', ha', r⟩ := R.obj j h[j] (by simp [hlj])
      rw [hj] at ha'; cases ha'
      generalize h[j] = ob at r
      cases ob with
      | L xs => obtain ⟨ws, _, _, o', q, hc, _⟩ := r; rw [ho] at q; cases q; exact n1 hc
      | T xs => obtain ⟨ws, _, _, o', q, hc, _⟩ := r; rw [ho] at q; cases q; exact n2 hc
    have heφ : e ∉ φb ++ t := notφ e ⟨_, hE, by show Value.type "enumerate" ≠ _; decide, by show Value.type "enumerate" ≠ _; decide⟩
    have hiφ : it ∉ φb ++ t := notφ it (by obtain ⟨o, q, hc, _⟩ := hI; exact ⟨o, q, by rw [hc]; decide, by rw [hc]; decide⟩)
    refine wpAny_pyNext_enum_item hE hI hL (by simpa using hw) hne fun h' hEO hI' htup hsz hk' => ?_
    show wpAny _ A (letOwnedTupleGo (.Tuple _ _ _) (.ref e) (.ref s.heap.objs.size)) _ _ _
    refine wpAny_letOwnedTupleGo_enum hEO fun h'' hE'' hs'' => ?_
    have htl : s.heap.objs.size ≠ e := Nat.ne_of_gt (Heap.lt_size hE)
    have hT : h''.IsTuple s.heap.objs.size #[.int k s.toks, wv] := ⟨_, (hs''.2 _ htl).trans htup, rfl, 0, rfl⟩
    have hgo2 : (assignEach [.Name x px, .Name y py] env) = [(false, assign (.Name x px) env), (false, assign (.Name y py) env)] := rfl
    refine wpAny_assign_Tuple hA.1 hT (by rw [hgo2]; rfl) (by rw [hgo2]; rfl) fun h₃ he₃ => ?_
    have keep3 : ∀ b o, b ≠ e → b ≠ it → s.heap.get? b = some o → h₃.get? b = some o := fun b o n1 n2 q => by
      have q1 := hk' b o n1 n2 q
      have q2 := (hs''.2 b n1).trans q1
      refine he₃ b o ?_ q2
      show b ≠ h''.objs.size
      rw [hs''.1, hsz]
      exact Nat.ne_of_lt (Nat.lt_succ_of_lt (Heap.lt_size q))
    have szh : h''.objs.size = s.heap.objs.size + 1 := by rw [hs''.1, hsz]
    have keep4 : ∀ b o, h''.get? b = some o → h₃.get? b = some o := fun b o q => he₃ b o (Nat.ne_of_lt (Heap.lt_size q)) q
    have hE₃ : IsEnum h₃ e it (((k : Nat) : Int) + 1) wv := keep4 _ _ hE''
    have hI₃ : h₃.IsListIter it l (k + 1) := hI'.at fun o q => keep4 _ _ ((hs''.2 it (Ne.symm hne)).trans q)
    have R₃ : Rep hb φ₀ (φb ++ t) h h₃ := R.keep fun b o hb' q => keep3 b o (by
        rintro rfl
        rcases hb' with h1 | h1
        · exact heφ h1
        · rw [heb] at h1; cases h1) (by
        rintro rfl
        rcases hb' with h1 | h1
        · exact hiφ h1
        · rw [hib] at h1; cases h1) q
    have X₃ : EnvOK hb cx env (φb ++ t) lo h₃ := X.keepOwn fun a ha o q => keep3 a o (fun e' => heo (e' ▸ ha)) (fun e' => hio (e' ▸ ha)) q
    have st₃ : Step φb (own env) s₀ { s with heap := h₃, toks := s.toks + 1 } (φb ++ t) := st.touchO (T := [e, it]) (fun b o hb q => by
      simp only [List.mem_cons, List.not_mem_nil, or_false, not_or] at hb
      exact keep3 b o hb.1 hb.2 q) (by simp [he0, hi0]) R₃ X₃
    rw [hgo2]
    refine wpAny_assignInOrder_more (wpAny_assign_Name (store_var (v := .int p.2) (s := { s with heap := h₃, toks := s.toks + 1 }) hx X₃ R₃ (by rw [hk]; exact RV.i _ _) fun a₁ s₄ ha₁ st₄ R₄ X₄ => ?_))
    refine wpAny_assignInOrder_more (wpAny_assign_Name (store_var hy X₄ R₄ rv fun a₂ s₅ ha₂ st₅ R₅ X₅ => wpAny_assignInOrder_none ?_))
    have o1 := own_of_cell ha₁
    have o2 := own_of_cell ha₂
    have fr5 : ∀ b o, b ∉ own env → b ∉ φb ++ t → h₃.get? b = some o → s₅.heap.get? b = some o := fun b o n1 n2 q =>
      st₅.frame b o (fun hm => n2 (List.mem_of_mem_drop hm)) (by simp; rintro rfl; exact n1 o2) (st₄.frame b o (fun hm => n2 (List.mem_of_mem_drop hm)) (by simp; rintro rfl; exact n1 o1) q)
    refine kk' s₅ ((st₃.trans (st₄.own_mono (by simpa using o1)) h5).trans (st₅.own_mono (by simpa using o2)) h5) R₅ X₅ ⟨wv, ?_, ?_⟩
    · have e1 : (((k + 1 : Nat)) : Int) = ((k : Nat) : Int) + 1 := by push_cast; rfl
      show s₅.heap.get? e = _
      rw [e1]
      exact fr5 e _ heo heφ hE₃
    · exact hI₃.at fun o q => fr5 it o hio hiφ q
  done := fun t lo h s End st R X hc ⟨old, hE, hI⟩ kk' => by
    have hc : h[i]? = some (.L xs) := hc
    obtain ⟨a, ha, ws, _, hr, hL⟩ := R.obj _ _ hc
    rw [List.getElem?_append_left (List.getElem?_eq_some_iff.mp hl).1, hl] at ha; cases ha
    have hlen := hr.len
    rw [List.length_zipIdx] at hE hI
    have hiφ : it ∉ φb ++ t := by
      intro hm
      obtain ⟨o, ho, hcc, _⟩ := hI
      obtain ⟨j, hj⟩ := List.getElem?_of_mem hm
      have hlj := (List.getElem?_eq_some_iff.mp hj).1
      rw [R.len] at hlj
      obtain ⟨a', ha', r⟩ := R.obj j h[j] (by simp [hlj])
      rw [hj] at ha'; cases ha'
      generalize h[j] = ob at r
      cases ob with
      | L xs => obtain ⟨ws, _, _, o', q, hc2, _⟩ := r; rw [ho] at q; cases q; rw [hcc] at hc2; revert hc2; decide
      | T xs => obtain ⟨ws, _, _, o', q, hc2, _⟩ := r; rw [ho] at q; cases q; rw [hcc] at hc2; revert hc2; decide
    refine wpAny_pyNext_enum_end hA.1 hE hI hL (by simp [hlen]) fun hh he => ?_
    have R₂ : Rep hb φ₀ (φb ++ t) h hh := R.keep fun b o hb' q => he b o (by
      rintro rfl
      rcases hb' with h1 | h1
      · exact hiφ h1
      · rw [hib] at h1; cases h1) q
    have X₂ : EnvOK hb cx env (φb ++ t) lo hh := X.keepOwn fun a ha o q => he a o (fun e' => hio (e' ▸ ha)) q
    exact kk' _ (st.touchO (T := [it]) (tk := s.toks) (fun b o hb q => he b o (by simpa using hb) q) (by simpa using hi0) R₂ X₂) R₂ X₂

theorem ss_forE (St : Stat hb φ₀) {n x y : Str} {px py tp np pos p : Pos} {kk : Nat} {s1 s2 : Nat} {e : PySem.Expr} {ie : E} {b : List Stmt} {ib : List S} (hn : isBuiltin cx n nEnum = true) (H : SE prog w hb φ₀ C d cx e ie) (he : ∀ env, starEach [e] env = [(false, eval e env)])
    (hx : cSlot cx x = some s1) (hy : cSlot cx y = some s2) (Hb : SSs prog w hb φ₀ C d cx b ib) : SS prog w hb φ₀ C d cx (.For (.Tuple [.Name x px, .Name y py] kk tp) (.Call (.Name n np) [e] [] pos) b [] p) (.forE s1 s2 ie ib) := by
  intro A env φ lo h s Q hA X R q
  simp only [qS0, qS1, qS2, qS3, qS4, qS5, qS6, qS7, qS8, qS9, qS10, qS11, qS12] at q
  refine wpAny_For ?_ (by intro _; rfl)
  refine call_typ (ies := []) (K := fun vs h => ∃ v, vs = [v] ∧ listP v h fun xs => forP (isListAt v xs) (fun (p : V × Nat) lo h K => wpSs C ib (upd (upd lo s1 (.int p.2)) s2 p.1) h K) xs.zipIdx lo h Q) St hn (by simp) (fun mb x => x.2.2.2.2.2.2.2) (.cons H he .nil) he hA X R ?_ fun φ₁ avs as h₁ s₁ st₁ R₁ X₁ ra q₁ => ?_
  · simp only [qEs0, qEs1, List.cons.injEq, and_true, exists_eq_left']; exact q
  · obtain ⟨v, rfl, q₂⟩ := q₁
    obtain ⟨a, rfl, rv⟩ := rvs_one ra
    obtain ⟨i, l, xs, ws, rfl, rfl, hi', hl, hx', hr, hL, q₃⟩ := rep_list R₁ rv q₂
    refine call_enumerate_list hL fun h' hE hI hsz hk => ?_
    refine wpAny_pyIter_enum hE ?_
    have tk := take_enum (prog := prog) (w := w) (φ₀ := φ₀) (px := px) (py := py) (tp := tp) (kk := kk) (xs := xs) (s₀ := s₁) hA hl hx hy R₁.five (e := s₁.heap.objs.size + 1) (it := s₁.heap.objs.size) (Nat.succ_ne_self _) (get_ge (Nat.le_succ _)) (get_ge (Nat.le_refl _))
      (own_lt X₁ (Nat.le_succ _)) (own_lt X₁ (Nat.le_refl _)) (R₁.fresh (get_ge (Nat.le_succ _))) (R₁.fresh (get_ge (Nat.le_refl _)))
    refine for_loop (s := { s₁ with heap := h' }) tk hA Hb R₁.five (Q := Q) (fun f s' p => p.trans R.five st₁.own0) (t := []) (h := h₁) (lo := lo) ?_ ?_ ?_ ⟨_, hE, hI⟩ q₃
    · rw [List.append_nil]; exact Step.of_keeps _ s₁.toks hk
    · rw [List.append_nil]; exact R₁.keeps hk
    · rw [List.append_nil]; exact X₁.keeps hk
end
end Mine

set_option linter.unusedVariables false
set_option autoImplicit false
namespace Mine
open PySem PySem.Calls PyProof.Rows

section
variable {prog : Program} {w : World} {hb : Heap} {φ₀ φ : List Addr} {h : Hp} {s : Shared} {A : Around} {C : Orc} {d : Nat} {cx : Cx} {lo : Lo} {env : Env}

theorem cE_star {k : Nat} {e : PySem.Expr} {ie : E} (h : cE k cx e = some ie) (es : List PySem.Expr) (env : Env) : starEach (e :: es) env = (false, eval e env) :: starEach es env := by
  cases k with
  | zero => exact nn h
  | succ k => cases e <;> first | rfl | exact nn h
theorem cE_base {k : Nat} {e : PySem.Expr} {ie : E} (h : cE k cx e = some ie) (n : Str) (env : Env) : attributeBase e n env (eval e env) = eval e env := by
  cases k with
  | zero => exact nn h
  | succ k =>
    cases e with
    | Call f as ks p =>
      cases f with
      | Name id p' =>
        cases as with
        | nil => cases ks with
          | nil => exact nn h
          | cons _ _ => rfl
        | cons _ _ => rfl
      | _ => rfl
    | _ => rfl
theorem sl_of {k : Nat} {e : PySem.Expr} {ie : E} (h : cE k cx e = some ie) : asSlice e = none := by
  cases k with
  | zero => exact nn h
  | succ k => cases e <;> first | rfl | exact nn h
theorem cE_sub {e : PySem.Expr} (h : asSlice e = none) (wa wb : Value) : subscripted e false wa wb = operate [wa, wb] (getItem wa wb) := by
  cases e <;> first | rfl | exact nomatch h
theorem cE_fold {k : Nat} {e : PySem.Expr} {ie : E} (h : cE k cx e = some ie) (env : Env) (x : Value) : foldedSetIterable e env x = pure x := by
  cases k with
  | zero => exact nn h
  | succ k => cases e <;> first | rfl | exact nn h

theorem mapO_cons {α β : Type} {f : α → Option β} {a : α} {as : List α} {bs : List β} (h : mapO f (a :: as) = some bs) : ∃ b bs', f a = some b ∧ mapO f as = some bs' ∧ bs = b :: bs' := by
  obtain ⟨b, hb, h⟩ := bnd h
  obtain ⟨bs', hbs, h⟩ := bnd h
  exact ⟨b, bs', hb, hbs, (Option.some.inj h).symm⟩
theorem mapO_nil {α β : Type} {f : α → Option β} {bs : List β} (h : mapO f [] = some bs) : bs = [] := (Option.some.inj h).symm

theorem ses_of {k : Nat} (IH : ∀ (cx : Cx) (e : PySem.Expr) (ie : E), cE k cx e = some ie → SE prog w hb φ₀ C d cx e ie ∧ ST prog w hb φ₀ C d cx e ie) :
    ∀ (es : List PySem.Expr) (ies : List E), mapO (cE k cx) es = some ies → SEs prog w hb φ₀ C d cx es ies
  | [], ies, h => by cases mapO_nil h; exact .nil
  | e :: es, ies, h => by
    obtain ⟨ie, ies', h1, h2, rfl⟩ := mapO_cons h
    exact .cons (IH cx e ie h1).1 (cE_star h1 es) (ses_of IH es ies' h2)

theorem ifo {α : Type} {c : Prop} [Decidable c] {x y : Option α} {r : α} (h : (if c then x else y) = some r) : (c ∧ x = some r) ∨ y = some r := by
  by_cases hc : c
  · exact .inl ⟨hc, (if_pos hc).symm.trans h⟩
  · exact .inr ((if_neg hc).symm.trans h)

theorem sound_call (St : Stat hb φ₀) (HC : SC prog w hb φ₀ C d) {k : Nat} (IH : ∀ (cx : Cx) (e : PySem.Expr) (ie : E), cE k cx e = some ie → SE prog w hb φ₀ C d cx e ie ∧ ST prog w hb φ₀ C d cx e ie)
    {n : Str} {np p : Pos} {es : List PySem.Expr} {ies : List E} {ie : E} (h1 : mapO (cE k cx) es = some ies) (h : cB cx n ies = some ie) : SE prog w hb φ₀ C d cx (.Call (.Name n np) es [] p) ie := by
  have H := ses_of IH es ies h1
  match es, h1 with
  | [], h1 => cases mapO_nil h1; exact nn h
  | [a], h1 =>
    obtain ⟨ia, _, ha, h2, rfl⟩ := mapO_cons h1
    cases mapO_nil h2
    rcases ifo h with ⟨hb', h⟩ | h
    · cases h; exact se_len St hb' (IH cx _ ia ha).1 (cE_star ha [])
    rcases ifo h with ⟨hb', h⟩ | h
    · cases h; exact se_abs St hb' (IH cx _ ia ha).1 (cE_star ha [])
    rcases ifo h with ⟨hb', h⟩ | h
    · cases h; exact se_toI St hb' (IH cx _ ia ha).1 (cE_star ha [])
    rcases ifo h with ⟨hb', h⟩ | h
    · cases h; exact se_sum St hb' (IH cx _ ia ha).1 (cE_star ha [])
    obtain ⟨f, hf, h⟩ := bnd h
    cases h; exact se_call St HC hf H (cE_star ha [])
  | [a, b], h1 =>
    obtain ⟨ia, _, ha, h2, rfl⟩ := mapO_cons h1
    obtain ⟨ib, _, hb', h3, rfl⟩ := mapO_cons h2
    cases mapO_nil h3
    rcases ifo h with ⟨hm, h⟩ | h
    · cases h; exact se_min St hm (IH cx _ ia ha).1 (IH cx _ ib hb').1 (cE_star ha _) (cE_star hb' _)
    obtain ⟨f, hf, h⟩ := bnd h
    cases h; exact se_call St HC hf H (cE_star ha _)
  | a :: b :: c :: r, h1 =>
    obtain ⟨ia, _, ha, h2, rfl⟩ := mapO_cons h1
    obtain ⟨ib, _, hb', h3, rfl⟩ := mapO_cons h2
    obtain ⟨ic, _, hc, h4, rfl⟩ := mapO_cons h3
    obtain ⟨f, hf, h⟩ := bnd h
    cases h; exact se_call St HC hf H (cE_star ha _)

theorem sound_comp {k : Nat} (St : Stat hb φ₀) (IH : ∀ (cx : Cx) (e : PySem.Expr) (ie : E), cE k cx e = some ie → SE prog w hb φ₀ C d cx e ie ∧ ST prog w hb φ₀ C d cx e ie)
    {elt : PySem.Expr} {g : Comprehension} {sc : Scope} {p : Pos} {ie : E} (h : cComp cx (cE k cx) (cE k (cx.inner sc)) sc elt g = some ie) : SE prog w hb φ₀ C d cx (.ListComp elt [g] sc p) ie := by
  obtain ⟨x, hx, h⟩ := bnd h
  obtain ⟨kd, hkd, h⟩ := bnd h
  obtain ⟨sl, hsl, h⟩ := bnd h
  obtain ⟨hc, h⟩ := ift h
  obtain ⟨hc, h0⟩ := and2 hc
  obtain ⟨hk, hsc⟩ := and2 hc
  obtain ⟨t, it, ifs, a0⟩ := g
  obtain ⟨px, rfl⟩ := asName_some hx
  cases eq_of_beq h0
  have hx2 : cSlot (cx.inner sc) x = some sl := by
    show (_ >>= _) = _
    rw [hkd]
    exact (if_pos hk).trans hsl
  have h : cGen cx (cE k cx) (cE k (cx.inner sc)) sl elt it ifs = some ie := h
  unfold cGen at h
  cases hr : asRange cx it with
  | some as =>
    rw [hr] at h
    obtain ⟨n, np, q, rfl, hn⟩ := asRange_some hr
    have h : cRg (cE k cx) (cE k (cx.inner sc)) sl elt as ifs = some ie := h
    unfold cRg at h
    cases hi : one ifs with
    | none =>
      rw [hi] at h
      obtain ⟨h0, k1⟩ := ift h
      clear h
      cases nil_of h0
      obtain ⟨hi', h1, k2⟩ := bnd k1
      clear k1
      cases one_some h1
      obtain ⟨ih, hh, k3⟩ := bnd k2
      obtain ⟨ie', he, k4⟩ := bnd k3
      cases k4
      refine se_comp hsc hx2 (src_range1 St hn (IH cx _ ih hh).1 (cE_star hh [])) (fun _ _ => rfl) (fun A cenv lo hA => turn_nil hA (IH _ _ ie' he).1) ?_
      intro lo h Q q
      simp only [qE25, qE0, intP_i] at q
      exact q
    | some c =>
      rw [hi] at h
      cases one_some hi
      obtain ⟨q, h1, k1⟩ := bnd h
      clear h
      obtain ⟨a, b⟩ := q
      cases two_some h1
      obtain ⟨il, hl, k2⟩ := bnd k1
      obtain ⟨ih, hh, k3⟩ := bnd k2
      obtain ⟨ic, hc, k4⟩ := bnd k3
      obtain ⟨ie', he, k5⟩ := bnd k4
      cases k5
      refine se_comp hsc hx2 (src_range2 St hn (IH cx _ il hl).1 (IH cx _ ih hh).1 (cE_star hl _) (cE_star hh _)) (fun _ _ => rfl) (fun A cenv lo hA => turn_one hA (IH _ _ ic hc).2 (IH _ _ ie' he).1) ?_
      intro lo h Q q
      exact q
  | none =>
    rw [hr] at h
    obtain ⟨hn, h⟩ := ift h
    cases nil_of hn
    obtain ⟨ii, hi, h⟩ := bnd h
    obtain ⟨ie', he, h⟩ := bnd h
    cases h
    refine se_comp hsc hx2 (src_list (IH cx _ ii hi).1) (fun env x => cE_fold hi env x) (fun A cenv lo hA => turn_nil hA (IH _ _ ie' he).1) ?_
    intro lo h Q q
    simp only [qE0, qE1, qE2, qE3, qE4, qE5, qE6, qE7, qE8, qE9, qE10, qE11, qE12, qE13, qE14, qE15, qE16, qE17, qE18, qE19, qE20, qE21, qE22, qE23, qE24, qE25, qE26] at q
    exact q

theorem sound_sub {k : Nat} (IH : ∀ (cx : Cx) (e : PySem.Expr) (ie : E), cE k cx e = some ie → SE prog w hb φ₀ C d cx e ie ∧ ST prog w hb φ₀ C d cx e ie)
    {o i : PySem.Expr} {p : Pos} {ie : E} (h : cSub (cE k cx) o i = some ie) : SE prog w hb φ₀ C d cx (.Subscript o i p) ie := by
  unfold cSub at h
  cases hs : asSlice i with
  | none =>
    rw [hs] at h
    obtain ⟨a, ha, h⟩ := bnd h
    obtain ⟨b, hb', h⟩ := bnd h
    cases h
    exact se_ix (IH cx _ a ha).1 (IH cx _ b hb').1 (cE_sub hs)
  | some sl =>
    rw [hs] at h
    obtain ⟨l, u, t⟩ := sl
    obtain ⟨q, rfl⟩ := asSlice_some hs
    match l, u, t, h with
    | none, none, none, h =>
      obtain ⟨a, ha, h⟩ := bnd h
      cases h
      exact se_slA (IH cx _ a ha).1
    | none, some u, none, h =>
      obtain ⟨a, ha, h⟩ := bnd h
      obtain ⟨b, hb', h⟩ := bnd h
      cases h
      exact se_slL (IH cx _ a ha).1 (IH cx _ b hb').1
    | some l, some u, none, h =>
      obtain ⟨a, ha, h⟩ := bnd h
      obtain ⟨b, hb', h⟩ := bnd h
      obtain ⟨c, hc, h⟩ := bnd h
      cases h
      exact se_slM (IH cx _ a ha).1 (IH cx _ b hb').1 (IH cx _ c hc).1
    | none, none, some t, h =>
      obtain ⟨ht, h⟩ := ift h
      obtain ⟨_, _, _, rfl⟩ := isM1_some ht
      obtain ⟨a, ha, h⟩ := bnd h
      cases h
      exact se_rev (IH cx _ a ha).1

theorem sound_E (St : Stat hb φ₀) (HC : SC prog w hb φ₀ C d) : ∀ (k : Nat) (cx : Cx) (e : PySem.Expr) (ie : E), cE k cx e = some ie → SE prog w hb φ₀ C d cx e ie ∧ ST prog w hb φ₀ C d cx e ie := by
  intro k
  induction k with
  | zero => intro cx e ie h; exact nn h
  | succ k IH =>
    intro cx e ie h
    have both : ∀ {e : PySem.Expr} {ie : E}, (∀ env whole, isTrue e env whole = (do let v ← whole; standAt e.pos; holding [v] (truthy v))) → SE prog w hb φ₀ C d cx e ie → SE prog w hb φ₀ C d cx e ie ∧ ST prog w hb φ₀ C d cx e ie :=
      fun he H => ⟨H, st_of H he⟩
    cases e with
    | Constant c _ _ =>
      refine both (fun _ _ => rfl) ?_
      cases c with
      | int i => cases (show some _ = some _ from h); exact se_int _ _ _
      | bool i => cases (show some _ = some _ from h); exact se_bool _ _ _
      | _ => exact nn h
    | Name n _ => exact both (fun _ _ => rfl) (se_name St h)
    | BinOp l op r p =>
      obtain ⟨a, ha, h⟩ := bnd h
      obtain ⟨o, ho, h⟩ := bnd h
      obtain ⟨b, hb', h⟩ := bnd h
      cases h
      exact both (fun _ _ => rfl) (se_bin ho (IH cx l a ha).1 (IH cx r b hb').1)
    | UnaryOp op e p =>
      obtain ⟨a, ha, h⟩ := bnd h
      cases op with
      | Not => cases h; exact ⟨se_not (IH cx _ a ha).1, st_not (IH cx _ a ha).2⟩
      | USub => cases h; exact both (fun _ _ => rfl) (se_neg (IH cx _ a ha).1)
      | _ => exact nn h
    | BoolOp op es p =>
      obtain ⟨ho, h⟩ := ift h
      cases eq_of_beq ho
      obtain ⟨q, hq, h1⟩ := bnd h
      cases two_some hq
      obtain ⟨a, ha, h⟩ := bnd h1
      obtain ⟨b, hb', h⟩ := bnd h
      cases h
      exact ⟨se_and (IH cx _ a ha).1 (IH cx _ b hb').1, st_and (IH cx _ a ha).2 (IH cx _ b hb').2⟩
    | IfExp c t e p =>
      obtain ⟨a, ha, h⟩ := bnd h
      obtain ⟨b, hb', h⟩ := bnd h
      obtain ⟨c, hc, h⟩ := bnd h
      cases h
      exact ⟨se_ite (IH cx _ a ha).2 (IH cx _ b hb').1 (IH cx _ c hc).1, st_ite (IH cx _ a ha).2 (IH cx _ b hb').2 (IH cx _ c hc).2⟩
    | Compare l ops rs p =>
      obtain ⟨q, hq, h1⟩ := bnd h
      cases one_some hq
      obtain ⟨q', hq', h2⟩ := bnd h1
      cases one_some hq'
      obtain ⟨a, ha, h⟩ := bnd h2
      obtain ⟨o, ho, h⟩ := bnd h
      obtain ⟨b, hb', h⟩ := bnd h
      cases h
      exact ⟨se_cmp ho (IH cx _ a ha).1 (IH cx _ b hb').1, st_cmp ho (IH cx _ a ha).1 (IH cx _ b hb').1⟩
    | List es p =>
      obtain ⟨hn, h⟩ := ift h
      obtain ⟨ies, h1, h⟩ := bnd h
      cases h
      exact both (fun _ _ => rfl) (se_lst (ses_of IH _ _ h1) hn)
    | Tuple es kk p =>
      obtain ⟨hn, h⟩ := ift h
      obtain ⟨ies, h1, h⟩ := bnd h
      cases h
      exact both (fun _ _ => rfl) (se_tup (ses_of IH _ _ h1) hn)
    | Subscript o i p => exact both (fun _ _ => rfl) (sound_sub IH h)
    | Call fn as ks p =>
      refine both (fun _ _ => rfl) ?_
      obtain ⟨hk, h1⟩ := ift h
      cases nil_of hk
      clear h
      have h : cCall cx (cE k cx) fn as p = some ie := h1
      clear h1
      unfold cCall at h
      cases hf : asAttr fn with
      | some q =>
        rw [hf] at h
        obtain ⟨o, n, ap⟩ := q
        cases asAttr_some hf
        obtain ⟨hc, h2⟩ := ift h
        clear h
        obtain ⟨hc, hl⟩ := and2 hc
        obtain ⟨he, hn⟩ := and2 hc
        cases nil_of he
        cases eq_of_beq hn
        obtain ⟨a, ha, h⟩ := bnd h2
        cases h
        exact se_bits (IH cx _ a ha).1 (cE_base ha _) hl
      | none =>
        rw [hf] at h
        obtain ⟨n, hn, h2⟩ := bnd h
        obtain ⟨np, rfl⟩ := asName_some hn
        obtain ⟨ies, h3, h4⟩ := bnd h2
        exact sound_call St HC IH h3 h4
    | ListComp elt gs sc p =>
      refine both (fun _ _ => rfl) ?_
      obtain ⟨g, hg, h⟩ := bnd h
      cases one_some hg
      exact sound_comp St IH h
    | _ => exact nn h
end
end Mine

set_option linter.unusedVariables false
set_option autoImplicit false
namespace Mine
open PySem PySem.Calls PyProof.Rows

section
variable {prog : Program} {w : World} {hb : Heap} {φ₀ φ : List Addr} {h : Hp} {s : Shared} {A : Around} {C : Orc} {d : Nat} {cx : Cx} {lo : Lo} {env : Env}

theorem cT_each {k : Nat} {t : PySem.Expr} {it : T} (h : cT k cx t = some it) (ts : List PySem.Expr) (env : Env) : assignEach (t :: ts) env = (false, assign t env) :: assignEach ts env := by
  cases t <;> first | rfl | exact nn h
theorem cT_swap {k : Nat} {t e : PySem.Expr} {it : T} (h : cT k cx t = some it) (env : Env) : swappedStores [t] e env = pure none := by
  cases t <;> first | rfl | exact nn h

theorem sound_T (IE : ∀ (k : Nat) (cx : Cx) (e : PySem.Expr) (ie : E), cE k cx e = some ie → SE prog w hb φ₀ C d cx e ie ∧ ST prog w hb φ₀ C d cx e ie) {k : Nat} {t : PySem.Expr} {it : T} (h : cT k cx t = some it) : STg prog w hb φ₀ C d cx t it := by
  cases t with
  | Name x p =>
    obtain ⟨sl, h1, h2⟩ := bnd0 (x := cSlot cx x) h
    cases h2
    exact stg_nm h1
  | Subscript o i p =>
    obtain ⟨hi, h1⟩ := ift h
    obtain ⟨a, ha, h2⟩ := bnd h1
    obtain ⟨b, hb', h3⟩ := bnd h2
    cases h3
    exact stg_sub (IE k cx _ a ha).1 (IE k cx _ b hb').1
  | _ => exact nn h

theorem stgs_of (IE : ∀ (k : Nat) (cx : Cx) (e : PySem.Expr) (ie : E), cE k cx e = some ie → SE prog w hb φ₀ C d cx e ie ∧ ST prog w hb φ₀ C d cx e ie) {k : Nat} :
    ∀ (ts : List PySem.Expr) (its : List T), mapO (cT k cx) ts = some its → STgs prog w hb φ₀ C d cx ts its
  | [], its, h => by cases mapO_nil h; exact .nil
  | t :: ts, its, h => by
    obtain ⟨it, its', h1, h2, rfl⟩ := mapO_cons h
    exact .cons (sound_T IE h1) (cT_each h1 ts) (stgs_of IE ts its' h2)
theorem mapO_get {α β : Type} {f : α → Option β} : ∀ {as : List α} {bs : List β}, mapO f as = some bs → ∀ (i : Nat) (a : α), as[i]? = some a → ∃ b, f a = some b ∧ bs[i]? = some b
  | [], bs, h, i, a, ha => nn ha
  | a :: as, bs, h, 0, x, hx => by
    obtain ⟨b, bs', h1, h2, rfl⟩ := mapO_cons h
    cases (show some a = some x from hx)
    exact ⟨b, h1, rfl⟩
  | a :: as, bs, h, i + 1, x, hx => by
    obtain ⟨b, bs', h1, h2, rfl⟩ := mapO_cons h
    exact mapO_get h2 i x hx

theorem cNm_map {k : Nat} : ∀ {ts : List PySem.Expr} {ss : List Nat}, mapO (cNm cx) ts = some ss → mapO (cT k cx) ts = some (ss.map .nm)
  | [], ss, h => by cases mapO_nil h; rfl
  | t :: ts, ss, h => by
    obtain ⟨s, ss', h1, h2, rfl⟩ := mapO_cons h
    obtain ⟨n, h3, h4⟩ := bnd h1
    obtain ⟨p, rfl⟩ := asName_some h3
    have h5 : cT k cx (.Name n p) = some (.nm s) := by
      show (cSlot cx n).map T.nm = _
      rw [h4]; rfl
    show (cT k cx (.Name n p) >>= fun b => mapO (cT k cx) ts >>= fun bs => pure (b :: bs)) = _
    rw [h5, cNm_map h2]; rfl

theorem sss_of {k : Nat} (IH : ∀ (cx : Cx) (st : Stmt) (is : S), cS k cx st = some is → SS prog w hb φ₀ C d cx st is) : ∀ (sts : List Stmt) (iss : List S), mapO (cS k cx) sts = some iss → SSs prog w hb φ₀ C d cx sts iss
  | [], iss, h => by cases mapO_nil h; exact sss_nil
  | st :: sts, iss, h => by
    obtain ⟨is, iss', h1, h2, rfl⟩ := mapO_cons h
    exact sss_cons (IH cx st is h1) (sss_of IH sts iss' h2)

theorem swaps_tuple {ts : List PySem.Expr} {e : PySem.Expr} {k : Nat} {tp : Pos} (h : asTuple e = none) (env : Env) : swappedStores [.Tuple ts k tp] e env = pure none := by
  cases e <;> first | rfl | exact nomatch h

theorem forR1 {l hi : E} {s : Nat} {b : List S} {lo : Lo} {h : Hp} {Q : KR} : wpS C (.forR s l hi (.i 1) b) lo h Q =
    wpE C l lo h fun x h => wpE C hi lo h fun y h => intP x fun x => intP y fun y => (x.natAbs < 2 ^ 20 ∧ y.natAbs < 2 ^ 20) ∧ forP (fun _ => True) (fun v lo h K => wpSs C b (upd lo s v) h K) ((rangeL x 1 (rangeN x y 1)).map .int) lo h Q := by
  simp only [qS0, qS1, qS2, qS3, qS4, qS5, qS6, qS7, qS8, qS9, qS10, qS11, qS12, qE0, qE1, qE2, qE3, qE4, qE5, qE6, qE7, qE8, qE9, qE10, qE11, qE12, qE13, qE14, qE15, qE16, qE17, qE18, qE19, qE20, qE21, qE22, qE23, qE24, qE25, qE26]
  congr 1
  funext x h
  congr 1
  funext y h
  cases x with
  | int x => cases y with
    | int y => simp only [intP, true_or, and_true, ← forP_map]
    | _ => rfl
  | _ => rfl

theorem sound_asg (IE : ∀ (k : Nat) (cx : Cx) (e : PySem.Expr) (ie : E), cE k cx e = some ie → SE prog w hb φ₀ C d cx e ie ∧ ST prog w hb φ₀ C d cx e ie) {k : Nat} {t e : PySem.Expr} {p : Pos} {is : S} (h : cAsg k cx t e = some is) :
    SS prog w hb φ₀ C d cx (.Assign [t] e p) is := by
  unfold cAsg at h
  cases ht : asTuple t with
  | some ts =>
    rw [ht] at h
    obtain ⟨kt, pt, rfl⟩ := asTuple_some ht
    dsimp only at h
    cases he : asTuple e with
    | some es =>
      rw [he] at h
      obtain ⟨ke, pe, rfl⟩ := asTuple_some he
      obtain ⟨hok, h1⟩ := ift h
      obtain ⟨hok, hok3⟩ := and2 hok
      obtain ⟨hok1, hok2⟩ := and2 hok
      obtain ⟨its, h2, h3⟩ := bnd h1
      obtain ⟨ies, h4, h5⟩ := bnd h3
      cases h5
      refine ss_asgT ((Bool.not_eq_true' _).mp hok3) (of_decide_eq_true hok2) (eq_of_beq hok1) (fun i x pp hx => ?_) (stgs_of IE _ _ h2) (ses_of (IE k) _ _ h4)
      obtain ⟨it, h6, h7⟩ := mapO_get h2 i _ hx
      obtain ⟨sl, h8, h9⟩ := bnd0 (x := cSlot cx x) h6
      cases h9
      exact ⟨sl, h8, h7⟩
    | none =>
      rw [he] at h
      obtain ⟨hn, h1⟩ := ift h
      obtain ⟨ss, h2, h3⟩ := bnd h1
      obtain ⟨ie, h4, h5⟩ := bnd h3
      cases h5
      exact ss_unp hn (fun env => swaps_tuple he env) (stgs_of IE _ _ (cNm_map (k := k) h2)) (IE k cx _ ie h4).1
  | none =>
    rw [ht] at h
    obtain ⟨hn, h1⟩ := ift h
    obtain ⟨it, h2, h3⟩ := bnd h1
    obtain ⟨ie, h4, h5⟩ := bnd h3
    cases h5
    exact ss_asg hn (fun env => cT_swap h2 env) (fun env => by rw [cT_each h2]; rfl) (sound_T IE h2) (IE k cx _ ie h4).1

theorem forR3 {l hi st : E} {s : Nat} {b : List S} {lo : Lo} {h : Hp} {Q : KR} (q : wpS C (.forR s l hi st b) lo h Q) :
    wpE C l lo h fun x h => wpE C hi lo h fun y h => wpE C st lo h fun z h => intP x fun x => intP y fun y => intP z fun z => (x.natAbs < 2 ^ 20 ∧ y.natAbs < 2 ^ 20 ∧ (z = 1 ∨ z = -1)) ∧ forP (fun _ => True) (fun v lo h K => wpSs C b (upd lo s v) h K) ((rangeL x z (rangeN x y z)).map .int) lo h Q := by
  simp only [qS0, qS1, qS2, qS3, qS4, qS5, qS6, qS7, qS8, qS9, qS10, qS11, qS12] at q
  refine Eq.mp ?_ q
  congr 1
  funext x h
  congr 1
  funext y h
  congr 1
  funext z h
  cases x with
  | int x => cases y with
    | int y => cases z with
      | int z => simp only [intP, ← forP_map]
      | _ => rfl
    | _ => rfl
  | _ => rfl

theorem sound_for (St : Stat hb φ₀) (IE : ∀ (k : Nat) (cx : Cx) (e : PySem.Expr) (ie : E), cE k cx e = some ie → SE prog w hb φ₀ C d cx e ie ∧ ST prog w hb φ₀ C d cx e ie) {k : Nat} {t it : PySem.Expr} {b : List Stmt} {ib : List S} {p : Pos} {is : S}
    (Hb : SSs prog w hb φ₀ C d cx b ib) (h : cFor k cx t it ib = some is) : SS prog w hb φ₀ C d cx (.For t it b [] p) is := by
  unfold cFor at h
  cases hr : asRange cx it with
  | some as =>
    rw [hr] at h
    obtain ⟨n, np, q, rfl, hn⟩ := asRange_some hr
    obtain ⟨x, hx, h1⟩ := bnd h
    obtain ⟨px, rfl⟩ := asName_some hx
    obtain ⟨sl, h2, h3⟩ := bnd h1
    obtain ⟨es, h4, h5⟩ := bnd h3
    cases as with
    | nil => cases mapO_nil h4; exact nn h5
    | cons l as =>
      obtain ⟨il, es1, h6, h7, e⟩ := mapO_cons h4
      subst e
      cases as with
      | nil =>
        cases mapO_nil h7
        cases (show some _ = some _ from h5)
        refine ss_for (src_range1 St hn (IE k cx _ il h6).1 (cE_star h6 [])) (fun _ _ => rfl) h2 Hb ?_
        intro lo h Q q
        rw [forR1] at q
        exact q
      | cons hi as =>
        obtain ⟨ih, es2, h8, h9, e⟩ := mapO_cons h7
        subst e
        cases as with
        | nil =>
          cases mapO_nil h9
          cases (show some _ = some _ from h5)
          refine ss_for (src_range2 St hn (IE k cx _ il h6).1 (IE k cx _ ih h8).1 (cE_star h6 _) (cE_star h8 _)) (fun _ _ => rfl) h2 Hb ?_
          intro lo h Q q
          rw [forR1] at q
          exact q
        | cons st as =>
          obtain ⟨ist, es3, h10, h11, e⟩ := mapO_cons h9
          subst e
          cases as with
          | nil =>
            cases mapO_nil h11
            cases (show some _ = some _ from h5)
            exact ss_for (src_range3 St hn (IE k cx _ il h6).1 (IE k cx _ ih h8).1 (IE k cx _ ist h10).1 (cE_star h6 _) (cE_star h8 _) (cE_star h10 _)) (fun _ _ => rfl) h2 Hb fun lo h Q q => forR3 q
          | cons _ as =>
            obtain ⟨_, _, _, _, e⟩ := mapO_cons h11
            subst e
            exact nn h5
  | none =>
    rw [hr] at h
    dsimp only at h
    cases hen : asEnum cx it with
    | some a =>
      rw [hen] at h
      obtain ⟨n, np, q, rfl, hn⟩ := asEnum_some hen
      obtain ⟨ts, h1, h2⟩ := bnd h
      obtain ⟨_, _, rfl⟩ := asTuple_some h1
      obtain ⟨tt, h3, h4⟩ := bnd h2
      obtain ⟨t1, t2⟩ := tt
      cases two_some h3
      obtain ⟨x, h5, h6⟩ := bnd h4
      obtain ⟨y, h7, h8⟩ := bnd h6
      have h5 : asName t1 = some x := h5
      have h7 : asName t2 = some y := h7
      obtain ⟨_, rfl⟩ := asName_some h5
      obtain ⟨_, rfl⟩ := asName_some h7
      obtain ⟨s1, h9, h10⟩ := bnd h8
      obtain ⟨s2, h11, h12⟩ := bnd h10
      obtain ⟨ie, h13, h14⟩ := bnd h12
      cases h14
      exact ss_forE St hn (IE k cx _ ie h13).1 (cE_star h13 []) h9 h11 Hb
    | none =>
      rw [hen] at h
      obtain ⟨x, h1, h2⟩ := bnd h
      obtain ⟨_, rfl⟩ := asName_some h1
      obtain ⟨sl, h3, h4⟩ := bnd h2
      obtain ⟨ie, h5, h6⟩ := bnd h4
      cases h6
      refine ss_for (src_list (IE k cx _ ie h5).1) (fun env x => cE_fold h5 env x) h3 Hb ?_
      intro lo h Q q
      simp only [qS0, qS1, qS2, qS3, qS4, qS5, qS6, qS7, qS8, qS9, qS10, qS11, qS12] at q
      exact q

theorem sound_S (St : Stat hb φ₀) (HC : SC prog w hb φ₀ C d) : ∀ (k : Nat) (cx : Cx) (st : Stmt) (is : S), cS k cx st = some is → SS prog w hb φ₀ C d cx st is := by
  have IE := sound_E (prog := prog) (w := w) (C := C) (d := d) St HC
  intro k
  induction k with
  | zero => intro cx st is h; exact nn h
  | succ k IH =>
    intro cx st is h
    cases st with
    | Assign ts e p =>
      obtain ⟨t, ht, h1⟩ := bnd h
      cases one_some ht
      exact sound_asg IE h1
    | AugAssign t op e p =>
      obtain ⟨n, hn, h1⟩ := bnd h
      obtain ⟨_, rfl⟩ := asName_some hn
      obtain ⟨sl, h2, h3⟩ := bnd h1
      obtain ⟨o, h4, h5⟩ := bnd h3
      obtain ⟨ie, h6, h7⟩ := bnd h5
      cases h7
      exact ss_aug h2 h4 (IE k cx _ ie h6).1
    | Expr e p =>
      obtain ⟨⟨fn, as, pc⟩, hc, h1⟩ := bnd h
      cases asCall_some hc
      have h1 : cExS k cx fn as pc (.Call fn as [] pc) = some is := h1
      unfold cExS at h1
      cases hf : asAttr fn with
      | some q =>
        rw [hf] at h1
        obtain ⟨o, n, ap⟩ := q
        cases asAttr_some hf
        obtain ⟨v, hv, h2⟩ := bnd h1
        cases one_some hv
        obtain ⟨hok, h3⟩ := ift h2
        obtain ⟨hn, hl⟩ := and2 hok
        cases eq_of_beq hn
        obtain ⟨a, ha, h4⟩ := bnd h3
        obtain ⟨b, hb', h5⟩ := bnd h4
        cases h5
        exact ss_app (cE_base ha _) hl (cE_star hb' []) (IE k cx _ a ha).1 (IE k cx _ b hb').1
      | none =>
        rw [hf] at h1
        obtain ⟨n, hn, h2⟩ := bnd h1
        obtain ⟨_, rfl⟩ := asName_some hn
        obtain ⟨a, ha, h3⟩ := bnd h2
        cases h3
        exact ss_ex rfl (IE k cx _ a ha).1
    | If c t e p =>
      obtain ⟨ic, h1, h2⟩ := bnd h
      obtain ⟨it, h3, h4⟩ := bnd h2
      obtain ⟨ie, h5, h6⟩ := bnd h4
      cases h6
      exact ss_ife (IE k cx _ ic h1).2 (sss_of IH _ _ h3) (sss_of IH _ _ h5)
    | While c b oe p =>
      obtain ⟨ho, h1⟩ := ift h
      cases nil_of ho
      obtain ⟨ic, h2, h3⟩ := bnd h1
      obtain ⟨ib, h4, h5⟩ := bnd h3
      cases h5
      exact ss_whl (IE k cx _ ic h2).2 (sss_of IH _ _ h4)
    | For t it b oe p =>
      obtain ⟨ho, h1⟩ := ift h
      cases nil_of ho
      obtain ⟨ib, h4, h5⟩ := bnd h1
      exact sound_for St IE (sss_of IH _ _ h4) h5
    | Return e p =>
      obtain ⟨e', h1, h2⟩ := bnd h
      cases h1
      obtain ⟨a, ha, h3⟩ := bnd h2
      cases h3
      exact ss_ret (IE k cx _ a ha).1
    | Raise _ _ _ => cases (show some _ = some _ from h); exact ss_bad
    | _ => exact nn h
end
end Mine

set_option linter.unusedVariables false
set_option autoImplicit false
namespace Mine
open PySem PySem.Calls PyProof.Rows

/-! ## calls of the program's own functions -/
theorem bindL_out {kindOf : Str → Option NameKind} {x : Str} : ∀ (binds : List (Str × Value)) (m : Str → Option Value), x ∉ binds.map (·.1) → bindL kindOf binds m x = m x
  | [], _, _ => rfl
  | (n, v) :: r, m, h => by
    simp only [List.map_cons, List.mem_cons, not_or] at h
    unfold bindL
    rw [bindL_out r _ h.2]
    split
    · show (if x = n then some v else m x) = m x
      rw [if_neg h.1]
    · rfl
theorem bindL_in {kindOf : Str → Option NameKind} {x : Str} {v : Value} (hk : kindOf x = some .local) : ∀ (binds : List (Str × Value)) (m : Str → Option Value), (binds.map (·.1)).Nodup → (x, v) ∈ binds → bindL kindOf binds m x = some v
  | (n, u) :: r, m, hn, h => by
    simp only [List.map_cons, List.nodup_cons] at hn
    unfold bindL
    rcases List.mem_cons.mp h with e | e
    · cases e
      rw [bindL_out r _ hn.1, if_pos hk]
      show (if x = x then some v else m x) = some v
      rw [if_pos rfl]
    · exact bindL_in hk r _ hn.2 e
theorem bindC_out {kindOf : Str → Option NameKind} {x : Str} : ∀ (binds : List (Str × Value)) (m : Str → Option Value), x ∉ binds.map (·.1) → bindC kindOf binds m x = m x
  | [], _, _ => rfl
  | (n, v) :: r, m, h => by
    simp only [List.map_cons, List.mem_cons, not_or] at h
    unfold bindC
    rw [bindC_out r _ h.2]
    split
    · rfl
    · show (if x = n then some v else m x) = m x
      rw [if_neg h.1]
theorem bindC_in {kindOf : Str → Option NameKind} {x : Str} {v : Value} (hk : kindOf x ≠ some .local) : ∀ (binds : List (Str × Value)) (m : Str → Option Value), (binds.map (·.1)).Nodup → (x, v) ∈ binds → bindC kindOf binds m x = some v
  | (n, u) :: r, m, hn, h => by
    simp only [List.map_cons, List.nodup_cons] at hn
    unfold bindC
    rcases List.mem_cons.mp h with e | e
    · cases e
      rw [bindC_out r _ hn.1, if_neg hk]
      show (if x = x then some v else m x) = some v
      rw [if_pos rfl]
    · exact bindC_in hk r _ hn.2 e

theorem cellsFrom_nodup : ∀ (names : List (Str × NameKind)) (n : Nat) (acc : List (Str × Addr)), (names.map (·.1)).Nodup → (acc.map (·.1)).Nodup → (∀ p ∈ acc, p.1 ∉ names.map (·.1)) → ((cellsFrom n names acc).map (·.1)).Nodup
  | [], _, _, _, h, _ => h
  | (x, k) :: r, n, acc, h, ha, hd => by
    simp only [List.map_cons, List.nodup_cons] at h
    unfold cellsFrom
    split
    · refine cellsFrom_nodup r _ _ h.2 ?_ ?_
      · simp only [List.map_cons, List.nodup_cons]
        refine ⟨fun hm => ?_, ha⟩
        obtain ⟨p, hp, e⟩ := List.mem_map.mp hm
        have := hd p hp
        rw [e] at this
        exact this (by simp)
      · intro p hp
        rcases List.mem_cons.mp hp with rfl | hp
        · exact h.1
        · have := hd p hp
          simp only [List.map_cons, List.mem_cons, not_or] at this
          exact this.2
    · refine cellsFrom_nodup r _ _ h.2 ha fun p hp => ?_
      have := hd p hp
      simp only [List.map_cons, List.mem_cons, not_or] at this
      exact this.2
theorem lookup_of_mem2 {α : Type} : ∀ {l : List (Str × α)} {n : Str} {c : α}, (l.map (·.1)).Nodup → (n, c) ∈ l → l.lookup n = some c
  | (k, v) :: r, n, c, hn, h => by
    simp only [List.map_cons, List.nodup_cons] at hn
    rw [List.lookup_cons]
    rcases List.mem_cons.mp h with e | e
    · cases e; simp
    · have : (n == k) = false := by
        rw [beq_eq_false_iff_ne]
        rintro rfl
        exact hn.1 (List.mem_map.mpr ⟨(n, c), e, rfl⟩)
      rw [this]
      exact lookup_of_mem2 hn.2 e

noncomputable def pnames (fd : FuncData) : List Str := fd.params.args.map (·.arg)
/-- the shape of a function of the program's, seen by the kernel -/
noncomputable def fdOk (fd : FuncData) (n : Nat) : Bool :=
  fd.closure.isEmpty && fd.globals == mainGlobals && fd.builtins == builtinsNs && fd.scope.kind == .function && !fd.scope.isCoroutine && !fd.scope.isGenerator &&
  namesOk fd.scope.names && varsOk (cxOf gls fd.scope) && fd.scope.names.all (fun p => p.2 != .free) &&
  decide ((pnames fd).Nodup) && decide ((pnames fd).length = n) && n < 100 &&
  (pnames fd).zipIdx.all fun p => (fd.scope.names.lookup p.1 == some .local || fd.scope.names.lookup p.1 == some .cell) && (cxOf gls fd.scope).vars.lookup p.1 == some p.2

structure FnOK (hb : Heap) (f n : Nat) (body : List S) : Prop where
  ok : ∃ o fd b, hb.get? f = some o ∧ o.data = .func fd ∧ fd.body = .stmts b ∧ hb.CodeRec fd.code fd.qualname ∧ fdOk fd n = true ∧ cFn (b, fd.scope) = some body ∧
    ∀ args : List Value, args.length = n → bindArgs fd ⟨args, []⟩ = pure ((pnames fd).zip args)

section
variable {prog : Program} {w : World} {hb : Heap} {φ₀ φ : List Addr} {h : Hp} {s : Shared} {A : Around}

theorem zip_mem {α β : Type} {x : α} {y : β} : ∀ {as : List α} {bs : List β}, (x, y) ∈ as.zip bs → ∃ i : Nat, as[i]? = some x ∧ bs[i]? = some y
  | a :: as, b :: bs, h => by
    rcases List.mem_cons.mp h with e | e
    · cases e; exact ⟨0, rfl, rfl⟩
    · obtain ⟨i, h1, h2⟩ := zip_mem e
      exact ⟨i + 1, by simpa using h1, by simpa using h2⟩
theorem mem_zip {α β : Type} {x : α} {y : β} : ∀ {as : List α} {bs : List β} {i : Nat}, as[i]? = some x → bs[i]? = some y → (x, y) ∈ as.zip bs
  | a :: as, b :: bs, 0, h1, h2 => by simp at h1 h2; subst h1; subst h2; simp
  | a :: as, b :: bs, i + 1, h1, h2 => by
    simp at h1 h2
    exact List.mem_cons_of_mem _ (mem_zip h1 h2)
  | [], _, i, h1, _ => by simp at h1
  | _ :: _, [], i, _, h2 => by simp at h2
theorem zip_keys {α β : Type} : ∀ {as : List α} {bs : List β}, bs.length = as.length → (as.zip bs).map (·.1) = as
  | [], [], _ => rfl
  | a :: as, b :: bs, h => by simp at h; simp [zip_keys h]

theorem callEnvOK {fd : FuncData} {a n : Nat} {vs : List V} {args : List Value} {s₁ : Shared} (hok : fdOk fd n = true) (hlen : args.length = n) (R : Rep hb φ₀ φ h s.heap) (rv : RVs φ vs args)
    (x : InCallC s (callEnvC fd s.heap.objs.size a).locals (bindL (callEnvC fd s.heap.objs.size a).kindOf ((pnames fd).zip args) fun _ => none) (callEnvC fd s.heap.objs.size a).cells
        (bindC (callEnvC fd s.heap.objs.size a).kindOf ((pnames fd).zip args) fun _ => none) s₁) :
    EnvOK hb (cxOf gls fd.scope) (callEnvC fd s.heap.objs.size a) φ (fun s => vs[s]?) s₁.heap ∧ ∀ b ∈ own (callEnvC fd s.heap.objs.size a), s.heap.get? b = none := by
  simp only [fdOk, Bool.and_eq_true, decide_eq_true_eq, beq_iff_eq, List.all_eq_true, Bool.not_eq_true', bne_iff_ne] at hok
  obtain ⟨⟨⟨⟨⟨⟨⟨⟨⟨⟨⟨⟨hclo, hgl⟩, hbl⟩, hkd⟩, hco⟩, hgen⟩, hno⟩, hvo⟩, hfree⟩, hpn⟩, hpl⟩, hn100⟩, hpar⟩ := hok
  simp only [namesOk, Bool.and_eq_true, decide_eq_true_eq, List.all_eq_true, Bool.not_eq_true'] at hno
  obtain ⟨hnd, hnb⟩ := hno
  simp only [varsOk, Bool.and_eq_true, decide_eq_true_eq, List.all_eq_true] at hvo
  obtain ⟨hvd, hvl⟩ := hvo
  have hkeys : ((pnames fd).zip args).map (·.1) = pnames fd := zip_keys (by rw [hlen, hpl])
  have fr : ∀ a, s.heap.objs.size ≤ a → s.heap.get? a = none := fun a ha => by
    cases e : s.heap.get? a with
    | none => rfl
    | some o => exact absurd (Heap.lt_size e) (Nat.not_lt.mpr ha)
  have hpar' : ∀ (i : Nat) p, (pnames fd)[i]? = some p → (fd.scope.names.lookup p = some .local ∨ fd.scope.names.lookup p = some .cell) ∧ (cxOf gls fd.scope).vars.lookup p = some i := by
    intro i p hp
    have := hpar (p, i) (by rw [List.mem_zipIdx_iff_getElem?]; exact hp)
    simpa using this
  have hinj : ∀ x y s, (cxOf gls fd.scope).vars.lookup x = some s → (cxOf gls fd.scope).vars.lookup y = some s → x = y := by
    intro x y sl hx hy
    obtain ⟨i, hi⟩ := List.getElem?_of_mem (mem_of_lookup hx)
    obtain ⟨j, hj⟩ := List.getElem?_of_mem (mem_of_lookup hy)
    have := nodup_inj (i := i) (j := j) (a := sl) hvd (by simp [hi]) (by simp [hj])
    subst this
    rw [hi] at hj; cases hj; rfl
  have slot : ∀ x sl v, (cxOf gls fd.scope).vars.lookup x = some sl → vs[sl]? = some v → ∃ wv, (x, wv) ∈ (pnames fd).zip args ∧ RV φ v wv := by
    intro y sl v hy hv
    obtain ⟨wv, hw, hr⟩ := rv.get sl v hv
    have hsl : sl < (pnames fd).length := by
      rw [hpl, ← hlen]; exact (List.getElem?_eq_some_iff.mp hw).1
    have hp : (pnames fd)[sl]? = some (pnames fd)[sl] := by simp [hsl]
    have := hinj y _ sl hy (hpar' sl _ hp).2
    exact ⟨wv, mem_zip (this ▸ hp) hw, hr⟩
  have cellsOk := x.cell
  have hcn : ((cellsFrom (s.heap.objs.size + 1) fd.scope.names []).map (·.1)).Nodup := cellsFrom_nodup _ _ _ hnd (by simp) (by simp)
  have ownFresh : ∀ b ∈ own (callEnvC fd s.heap.objs.size a), s.heap.objs.size ≤ b := by
    intro b hb
    rcases List.mem_cons.mp hb with rfl | hb
    · exact Nat.le_refl _
    · obtain ⟨p, hp, rfl⟩ := List.mem_map.mp hb
      exact Nat.le_of_lt (x.above p.1 p.2 hp)
  refine ⟨{ kind := hkd, glb := hgl, blt := hbl, gl := rfl, nglob := fun _ e => e, nloc := fun _ e => e, ncel := fun _ e => e, nfre := fun y e => absurd rfl (hfree (y, .free) (mem_of_lookup e)), nobug := ?_, ns := ?_, cel := ?_, inj := hinj, apart := ?_, live := ?_, ncl := ?_, cinj := ?_, base := ?_, fresh := ?_, lt := ?_ }, fun b hb => fr b (ownFresh b hb)⟩
  · intro y hy
    obtain ⟨k, e⟩ := Option.isSome_iff_exists.mp hy
    exact hnb (y, k) (mem_of_lookup e)
  · refine ⟨_, x.toInCall.ns, fun y sl v hk hv hl => ?_⟩
    obtain ⟨wv, hm, hr⟩ := slot y sl v hv hl
    exact ⟨wv, bindL_in (kindOf := (callEnvC fd s.heap.objs.size a).kindOf) hk _ _ (by rw [hkeys]; exact hpn) hm, hr⟩
  · intro y sl hk hv
    have hk : fd.scope.names.lookup y = some .cell := by
      rcases hk with hk | hk
      · exact hk
      · exact absurd rfl (hfree (y, .free) (mem_of_lookup hk))
    obtain ⟨c, e⟩ := Option.isSome_iff_exists.mp (cellsFrom_has fd.scope.names (s.heap.objs.size + 1) y (mem_of_lookup hk))
    refine ⟨c, _, e, x.cell y c e, fun v hl => ?_⟩
    obtain ⟨wv, hm, hr⟩ := slot y sl v hv hl
    refine ⟨wv, bindC_in (kindOf := (callEnvC fd s.heap.objs.size a).kindOf) ?_ _ _ (by rw [hkeys]; exact hpn) hm, hr⟩
    show fd.scope.names.lookup y ≠ some .local
    rw [hk]; decide
  · intro b hb hm
    obtain ⟨o, e⟩ := R.live hm
    rw [fr b (ownFresh b hb)] at e; cases e
  · intro b hb
    rcases List.mem_cons.mp hb with rfl | hb
    · obtain ⟨o, es, ep, ho, r⟩ := x.toInCall.ns
      exact ⟨o, ho⟩
    · obtain ⟨p, hp, rfl⟩ := List.mem_map.mp hb
      obtain ⟨o, ho, _⟩ := x.cell p.1 p.2 (lookup_of_mem2 hcn hp)
      exact ⟨o, ho⟩
  · intro y c hc e
    have := x.above y c (mem_of_lookup hc)
    rw [e] at this
    exact Nat.lt_irrefl _ this
  · intro y z c hy hz
    exact name_of_addr x.apart (mem_of_lookup hy) (mem_of_lookup hz)
  · intro b hb
    exact R.fresh (fr b (ownFresh b hb))
  · intro k hk
    show vs[k]? = none
    refine List.getElem?_eq_none ?_
    rw [rv.len, hlen]
    have : 100 ≤ k := by simpa [cxOf] using hk
    have hn : n < 100 := hn100
    omega
  · intro y sl hy
    exact hvl (y, sl) (mem_of_lookup hy)

noncomputable def SCa (prog : Program) (w : World) (hb : Heap) (φ₀ : List Addr) (C : Orc) (d : Nat) : Prop :=
  ∀ (A : Around) (f : Nat) (vs : List V) (args : List Value) (φ : List Addr) (h : Hp) (s : Shared) (Q : KV), AOk d A → Rep hb φ₀ φ h s.heap → RVs φ vs args → C f vs h Q →
    codeAny (model prog w) A (.call (.ref f) ⟨args, []⟩) (fun r s' => match r with | .ok (.ret v) => PostE hb φ₀ φ s Q v s' | .ok _ => False | .error e => NoE e s') s

theorem sound_code {P : Prg} (St : Stat hb φ₀) (HF : ∀ f n body, P f = some (n, body) → FnOK hb f n body) : ∀ d, SCa prog w hb φ₀ (callD P d) d
  | 0 => fun A f vs args φ h s Q hA R rv q => (callD_zero.mp q : False).elim
  | d + 1 => by
    intro A f vs args φ h s Q hA R rv q
    have IH : SC prog w hb φ₀ (callD P d) d := fun A f vs args φ h s Q hA R rv q => wpAny_call (sound_code St HF d A f vs args φ h s Q hA R rv q)
    obtain ⟨⟨n, body⟩, hP, hn, q⟩ := getP_of (o := P f) (K := fun p => p.1 = vs.length ∧ wpSs (callD P d) p.2 (fun s => vs[s]?) h fun r _ h => endP r h Q) (callD_succ.mp q)
    dsimp only at hn q
    · skip
      obtain ⟨o, fd, b, ho, hd, hbody, hcode, hok, hc, hbind⟩ := (HF f n body hP).ok
      have hlen : args.length = n := by rw [hn, rv.len]
      have hok' := hok
      simp only [fdOk, Bool.and_eq_true, decide_eq_true_eq, beq_iff_eq, List.all_eq_true, Bool.not_eq_true', bne_iff_ne, List.isEmpty_iff] at hok'
      obtain ⟨⟨⟨⟨⟨⟨⟨⟨⟨⟨⟨⟨hclo, hgl⟩, hbl⟩, hkd⟩, hco⟩, hgen⟩, hno⟩, hvo⟩, hfree⟩, hpn⟩, hpl⟩, hn100⟩, hpar⟩ := hok'
      have hpar' : ∀ (i : Nat) p, (pnames fd)[i]? = some p → (fd.scope.names.lookup p = some .local ∨ fd.scope.names.lookup p = some .cell) := by
        intro i p hp
        have := hpar (p, i) (by rw [List.mem_zipIdx_iff_getElem?]; exact hp)
        simp at this
        exact this.1
      obtain ⟨h1, h2, h3⟩ := hA
      refine (codeAny_call_cells (by omega) (R.stays f o ho) hd (St.nolimit.keeps R.stays) (hcode.keeps R.stays) hbody (hbind args hlen) hclo ?_ (fun s₁ x => ?_) hco hgen hkd)
      · intro y hy
        obtain ⟨i, h1, _⟩ := zip_mem (x := y.1) (y := y.2) hy
        rcases hpar' i y.1 h1 with e | e
        · exact .inl e
        · exact .inr ⟨e, cellsFrom_has _ _ _ (mem_of_lookup e)⟩
      · obtain ⟨X, hfr⟩ := callEnvOK hok hlen R rv x
        have HS := sss_of (fun cx st is hh => sound_S (prog := prog) (w := w) St IH 40 cx st is hh) b body hc
        have R₁ := R.keeps x.toInCall.keep
        obtain ⟨hh, tk, e⟩ := x.toInCall.same
        have st0 : Step φ [] s s₁ φ := ⟨⟨hh, tk, e⟩, ⟨[], by simp, by simp⟩, fun b o _ _ e => x.toInCall.keep b o e, fun b o e => ⟨o, x.toInCall.keep b o e⟩⟩
        refine wpAny_mono (HS (A.deeper _) _ φ _ h s₁ _ ⟨h1, ?_, ?_⟩ X R₁ q) (fun fl s' p => ?_) fun _ _ x => x.elim
        · show A.depth + 1 + d < _; omega
        · show A.units + 3 + 4 * d + 80 < _; omega
        · obtain ⟨φ', lo', h', r, st, R', X', hr, q'⟩ := p
          have stt : Step φ [] s s' φ' := by
            have := (st0.own_mono (own' := own (callEnvC fd s.heap.objs.size f)) (by simp)).trans st R.five
            exact this.drop_own hfr
          cases r with
          | next =>
            have hr : fl = .next := hr
            subst hr
            exact ⟨φ', .none, h', stt, R', rfl, q'⟩
          | ret v =>
            obtain ⟨wv, rfl, rvv⟩ := hr
            exact ⟨φ', v, h', stt, R', rvv, q'⟩
end
end Mine

set_option autoImplicit false
noncomputable section
namespace Mine
open PySem

noncomputable def p_gcd_plain : List S :=
  [.whl (.cmp .gt (.len (.x 1)) (.i 0)) [.asgT [(.nm 0), (.nm 1)] [(.x 1), (.ix (.call (.x 3) [(.x 0), (.x 1), (.x 2)]) (.i 1))]],
   .ret (.x 0)]
noncomputable def p_normal : List S :=
  [.asg (.nm 1) (.len (.x 0)),
   .whl (.and (.cmp .gt (.x 1) (.i 0)) (.cmp .eq (.ix (.x 0) (.bin .sub (.x 1) (.i 1))) (.i 0))) [.aug 1 .sub (.i 1)],
   .ret (.slL (.x 0) (.x 1))]
noncomputable def p_compare : List S :=
  [.ife (.cmp .ne (.len (.x 0)) (.len (.x 1))) [.ret (.ite (.cmp .lt (.len (.x 0)) (.len (.x 1))) (.neg (.i 1)) (.i 1))] [],
   .forR 2 (.bin .sub (.len (.x 0)) (.i 1)) (.neg (.i 1)) (.neg (.i 1)) [.ife (.cmp .ne (.ix (.x 0) (.x 2)) (.ix (.x 1) (.x 2))) [.ret (.ite (.cmp .lt (.ix (.x 0) (.x 2)) (.ix (.x 1) (.x 2))) (.neg (.i 1)) (.i 1))] []],
   .ret (.i 0)]
noncomputable def p_add : List S :=
  [.ife (.cmp .lt (.len (.x 0)) (.len (.x 1))) [.asgT [(.nm 0), (.nm 1)] [(.x 1), (.x 0)]] [],
   .asgT [(.nm 3), (.nm 4), (.nm 5)] [(.lst []), (.i 0), (.bin .sub (.bin .shl (.i 1) (.x 2)) (.i 1))],
   .forR 6 (.i 0) (.len (.x 1)) (.i 1) [.aug 4 .add (.bin .add (.ix (.x 0) (.x 6)) (.ix (.x 1) (.x 6))), .app (.x 3) (.bin .band (.x 4) (.x 5)), .aug 4 .shr (.x 2)],
   .forR 6 (.len (.x 1)) (.len (.x 0)) (.i 1) [.aug 4 .add (.ix (.x 0) (.x 6)), .app (.x 3) (.bin .band (.x 4) (.x 5)), .aug 4 .shr (.x 2)],
   .ife (.cmp .gt (.x 4) (.i 0)) [.app (.x 3) (.x 4)] [],
   .ret (.x 3)]
noncomputable def p_sub : List S :=
  [.ife (.cmp .lt (.call (.g (.fn 72)) [(.x 0), (.x 1)]) (.i 0)) [.bad] [],
   .asgT [(.nm 3), (.nm 4), (.nm 5)] [(.lst []), (.i 0), (.bin .shl (.i 1) (.x 2))],
   .forR 6 (.i 0) (.len (.x 0)) (.i 1) [.asg (.nm 7) (.bin .sub (.bin .sub (.ix (.x 0) (.x 6)) (.x 4)) (.ite (.cmp .lt (.x 6) (.len (.x 1))) (.ix (.x 1) (.x 6)) (.i 0))), .asg (.nm 4) (.ite (.cmp .lt (.x 7) (.i 0)) (.i 1) (.i 0)), .app (.x 3) (.ite (.cmp .lt (.x 7) (.i 0)) (.bin .add (.x 7) (.x 5)) (.x 7))],
   .ret (.call (.g (.fn 65)) [(.x 3)])]
noncomputable def p_divrem_limb : List S :=
  [.ife (.cmp .eq (.x 1) (.i 0)) [.bad] [],
   .asgT [(.nm 3), (.nm 4)] [(.bin .mul (.lst [(.i 0)]) (.len (.x 0))), (.i 0)],
   .forR 5 (.bin .sub (.len (.x 0)) (.i 1)) (.neg (.i 1)) (.neg (.i 1)) [.asg (.nm 4) (.bin .bor (.bin .shl (.x 4) (.x 2)) (.ix (.x 0) (.x 5))), .asg (.sub (.x 3) (.x 5)) (.bin .fdiv (.x 4) (.x 1)), .aug 4 .mod (.x 1)],
   .ret (.tup [(.call (.g (.fn 65)) [(.x 3)]), (.x 4)])]
noncomputable def p_shift_left : List S :=
  [.ife (.cmp .eq (.len (.x 0)) (.i 0)) [.ret (.lst [])] [],
   .asgT [(.nm 3), (.nm 4)] [(.bin .fdiv (.x 1) (.x 2)), (.bin .mod (.x 1) (.x 2))],
   .asgT [(.nm 5), (.nm 6), (.nm 7)] [(.bin .mul (.lst [(.i 0)]) (.x 3)), (.i 0), (.bin .sub (.bin .shl (.i 1) (.x 2)) (.i 1))],
   .forL 8 (.x 0) [.aug 6 .bor (.bin .shl (.x 8) (.x 4)), .app (.x 5) (.bin .band (.x 6) (.x 7)), .aug 6 .shr (.x 2)],
   .ife (.cmp .gt (.x 6) (.i 0)) [.app (.x 5) (.x 6)] [],
   .ret (.x 5)]
noncomputable def p_shift_right : List S :=
  [.asgT [(.nm 3), (.nm 4)] [(.bin .fdiv (.x 1) (.x 2)), (.bin .mod (.x 1) (.x 2))],
   .asgT [(.nm 5), (.nm 6)] [(.lst []), (.bin .sub (.bin .shl (.i 1) (.x 2)) (.i 1))],
   .forR 7 (.x 3) (.len (.x 0)) (.i 1) [.asg (.nm 8) (.ite (.cmp .lt (.bin .add (.x 7) (.i 1)) (.len (.x 0))) (.ix (.x 0) (.bin .add (.x 7) (.i 1))) (.i 0)), .app (.x 5) (.bin .band (.bin .bor (.bin .shr (.ix (.x 0) (.x 7)) (.x 4)) (.bin .shl (.x 8) (.bin .sub (.x 2) (.x 4)))) (.x 6))],
   .ret (.call (.g (.fn 65)) [(.x 5)])]
noncomputable def p_bits : List S :=
  [.ret (.ite (.cmp .gt (.len (.x 0)) (.i 0)) (.bin .add (.bin .mul (.bin .sub (.len (.x 0)) (.i 1)) (.x 1)) (.bits (.ix (.x 0) (.neg (.i 1))))) (.i 0))]
noncomputable def p_signed : List S :=
  [.ret (.tup [(.and (.x 0) (.cmp .gt (.len (.x 1)) (.i 0))), (.x 1)])]
noncomputable def p_s_neg : List S :=
  [.ret (.call (.g (.fn 121)) [(.not (.ix (.x 0) (.i 0))), (.ix (.x 0) (.i 1))])]
noncomputable def p_s_sign : List S :=
  [.ife (.cmp .eq (.len (.ix (.x 0) (.i 1))) (.i 0)) [.ret (.i 0)] [],
   .ret (.ite (.ix (.x 0) (.i 0)) (.neg (.i 1)) (.i 1))]
noncomputable def p_s_add : List S :=
  [.ife (.cmp .eq (.ix (.x 0) (.i 0)) (.ix (.x 1) (.i 0))) [.ret (.call (.g (.fn 121)) [(.ix (.x 0) (.i 0)), (.call (.g (.fn 79)) [(.ix (.x 0) (.i 1)), (.ix (.x 1) (.i 1)), (.x 2)])])] [],
   .ife (.cmp .lt (.call (.g (.fn 72)) [(.ix (.x 0) (.i 1)), (.ix (.x 1) (.i 1))]) (.i 0)) [.ret (.call (.g (.fn 121)) [(.ix (.x 1) (.i 0)), (.call (.g (.fn 86)) [(.ix (.x 1) (.i 1)), (.ix (.x 0) (.i 1)), (.x 2)])])] [],
   .ret (.call (.g (.fn 121)) [(.ix (.x 0) (.i 0)), (.call (.g (.fn 86)) [(.ix (.x 0) (.i 1)), (.ix (.x 1) (.i 1)), (.x 2)])])]
noncomputable def p_s_sub : List S :=
  [.ret (.call (.g (.fn 142)) [(.x 0), (.call (.g (.fn 128)) [(.x 1)]), (.x 2)])]
noncomputable def p_s_mul : List S :=
  [.ret (.call (.g (.fn 121)) [(.cmp .ne (.ix (.x 0) (.i 0)) (.ix (.x 1) (.i 0))), (.call (.x 3) [(.ix (.x 0) (.i 1)), (.ix (.x 1) (.i 1)), (.x 2)])])]
noncomputable def p_tdiv : List S :=
  [.ife (.cmp .eq (.len (.ix (.x 1) (.i 1))) (.i 0)) [.bad] [],
   .unp [4, 5] (.call (.x 3) [(.ix (.x 0) (.i 1)), (.ix (.x 1) (.i 1)), (.x 2)]),
   .ret (.tup [(.call (.g (.fn 121)) [(.cmp .ne (.ix (.x 0) (.i 0)) (.ix (.x 1) (.i 0))), (.x 4)]), (.call (.g (.fn 121)) [(.ix (.x 0) (.i 0)), (.x 5)])])]
noncomputable def p_m_turned : List S :=
  [.ret (.ite (.cmp .gt (.len (.x 0)) (.i 0)) (.cmpR (.i 0) (.len (.ix (.x 0) (.i 0))) 101 (.cmpL (.x 0) 201 (.ix (.x 201) (.x 101)))) (.lst []))]
noncomputable def p_exact : List S :=
  [.unp [4, 5] (.call (.g (.fn 163)) [(.x 0), (.x 1), (.x 2), (.x 3)]),
   .ret (.x 4)]
noncomputable def p_pivot_row : List S :=
  [.forR 3 (.x 1) (.len (.x 0)) (.i 1) [.ife (.cmp .ne (.call (.g (.fn 135)) [(.ix (.ix (.x 0) (.x 3)) (.x 2))]) (.i 0)) [.ret (.x 3)] []],
   .ret (.neg (.i 1))]
noncomputable def p_cleared : List S :=
  [.asgT [(.nm 7), (.nm 8)] [(.ix (.x 1) (.x 2)), (.ix (.x 0) (.x 2))],
   .asg (.nm 9) (.lst []),
   .forE 10 11 (.x 0) [.asg (.nm 12) (.call (.g (.fn 149)) [(.call (.g (.fn 156)) [(.x 11), (.x 7), (.x 4), (.x 5)]), (.call (.g (.fn 156)) [(.x 8), (.ix (.x 1) (.x 10)), (.x 4), (.x 5)]), (.x 4)]), .app (.x 9) (.call (.g (.fn 179)) [(.x 12), (.x 3), (.x 4), (.x 6)])],
   .ret (.x 9)]
noncomputable def p_steps_down : List S :=
  [.asgT [(.nm 5), (.nm 6), (.nm 7), (.nm 8)] [(.cmpL (.x 0) 101 (.slA (.x 101))), (.lst []), (.b false), (.g (.ref 4))],
   .forR 9 (.i 0) (.x 1) (.i 1) [.asg (.nm 10) (.len (.x 6)), .asg (.nm 11) (.call (.g (.fn 186)) [(.x 5), (.x 10), (.x 9)]), .ife (.cmp .ge (.x 11) (.i 0)) [.ife (.cmp .ne (.x 11) (.x 10)) [.asgT [(.sub (.x 5) (.x 10)), (.sub (.x 5) (.x 11))] [(.ix (.x 5) (.x 11)), (.ix (.x 5) (.x 10))], .asg (.nm 7) (.not (.x 7))] [], .forR 12 (.bin .add (.x 10) (.i 1)) (.len (.x 5)) (.i 1) [.asg (.sub (.x 5) (.x 12)) (.call (.g (.fn 193)) [(.ix (.x 5) (.x 12)), (.ix (.x 5) (.x 10)), (.x 9), (.x 8), (.x 2), (.x 3), (.x 4)])], .asg (.nm 8) (.ix (.ix (.x 5) (.x 10)) (.x 9)), .app (.x 6) (.x 9)] []],
   .ret (.tup [(.x 5), (.x 6), (.x 7)])]
noncomputable def p_det_bareiss : List S :=
  [.ife (.cmp .eq (.len (.x 0)) (.i 0)) [.ret (.g (.ref 4))] [],
   .unp [4, 5, 6] (.call (.g (.fn 198)) [(.x 0), (.len (.x 0)), (.x 1), (.x 2), (.x 3)]),
   .ife (.cmp .lt (.len (.x 5)) (.len (.x 0))) [.ret (.g (.ref 2))] [],
   .asg (.nm 7) (.ix (.ix (.x 4) (.neg (.i 1))) (.bin .sub (.len (.x 0)) (.i 1))),
   .ret (.ite (.x 6) (.call (.g (.fn 128)) [(.x 7)]) (.x 7))]
noncomputable def p_mul_school : List S :=
  [.asgT [(.nm 3), (.nm 4)] [(.bin .mul (.lst [(.i 0)]) (.bin .add (.len (.x 0)) (.len (.x 1)))), (.bin .sub (.bin .shl (.i 1) (.x 2)) (.i 1))],
   .forE 5 6 (.x 0) [.asg (.nm 7) (.i 0), .forE 8 9 (.x 1) [.aug 7 .add (.bin .add (.ix (.x 3) (.bin .add (.x 5) (.x 8))) (.bin .mul (.x 6) (.x 9))), .asg (.sub (.x 3) (.bin .add (.x 5) (.x 8))) (.bin .band (.x 7) (.x 4)), .aug 7 .shr (.x 2)], .asg (.sub (.x 3) (.bin .add (.x 5) (.len (.x 1)))) (.x 7)],
   .ret (.call (.g (.fn 65)) [(.x 3)])]
noncomputable def p_divrem_small : List S :=
  [.unp [3, 4] (.call (.g (.fn 93)) [(.x 0), (.ix (.x 1) (.i 0)), (.x 2)]),
   .ret (.tup [(.x 3), (.ite (.cmp .gt (.x 4) (.i 0)) (.lst [(.x 4)]) (.lst []))])]
noncomputable def p_guessed_limb : List S :=
  [.asgT [(.nm 4), (.nm 5)] [(.bin .bor (.bin .shl (.ix (.x 0) (.i 2)) (.x 3)) (.ix (.x 0) (.i 1))), (.bin .shl (.i 1) (.x 3))],
   .asg (.nm 6) (.min (.bin .fdiv (.x 4) (.x 1)) (.bin .sub (.x 5) (.i 1))),
   .asg (.nm 7) (.bin .sub (.x 4) (.bin .mul (.x 6) (.x 1))),
   .whl (.and (.cmp .lt (.x 7) (.x 5)) (.cmp .gt (.bin .mul (.x 6) (.x 2)) (.bin .bor (.bin .shl (.x 7) (.x 3)) (.ix (.x 0) (.i 0))))) [.aug 6 .sub (.i 1), .aug 7 .add (.x 1)],
   .ret (.x 6)]
noncomputable def p_take_away : List S :=
  [.asgT [(.nm 5), (.nm 6)] [(.i 0), (.bin .shl (.i 1) (.x 4))],
   .forE 7 8 (.x 1) [.asg (.nm 9) (.bin .sub (.ix (.x 0) (.bin .add (.x 3) (.x 7))) (.bin .mod (.bin .add (.bin .mul (.x 2) (.x 8)) (.x 5)) (.x 6))), .asg (.nm 5) (.bin .add (.bin .fdiv (.bin .add (.bin .mul (.x 2) (.x 8)) (.x 5)) (.x 6)) (.ite (.cmp .lt (.x 9) (.i 0)) (.i 1) (.i 0))), .asg (.sub (.x 0) (.bin .add (.x 3) (.x 7))) (.ite (.cmp .lt (.x 9) (.i 0)) (.bin .add (.x 9) (.x 6)) (.x 9))],
   .asg (.nm 9) (.bin .sub (.ix (.x 0) (.bin .add (.x 3) (.len (.x 1)))) (.x 5)),
   .asg (.sub (.x 0) (.bin .add (.x 3) (.len (.x 1)))) (.ite (.cmp .lt (.x 9) (.i 0)) (.bin .add (.x 9) (.x 6)) (.x 9)),
   .ret (.ite (.cmp .lt (.x 9) (.i 0)) (.i 1) (.i 0))]
noncomputable def p_put_back : List S :=
  [.asgT [(.nm 4), (.nm 5)] [(.i 0), (.bin .sub (.bin .shl (.i 1) (.x 3)) (.i 1))],
   .forE 6 7 (.x 1) [.aug 4 .add (.bin .add (.ix (.x 0) (.bin .add (.x 2) (.x 6))) (.x 7)), .asg (.sub (.x 0) (.bin .add (.x 2) (.x 6))) (.bin .band (.x 4) (.x 5)), .aug 4 .shr (.x 3)],
   .asg (.sub (.x 0) (.bin .add (.x 2) (.len (.x 1)))) (.bin .band (.bin .add (.ix (.x 0) (.bin .add (.x 2) (.len (.x 1)))) (.x 4)) (.x 5))]
noncomputable def p_divide_rows : List S :=
  [.asg (.nm 3) (.len (.x 1)),
   .asg (.nm 4) (.bin .mul (.lst [(.i 0)]) (.bin .sub (.len (.x 0)) (.x 3))),
   .forR 5 (.bin .sub (.bin .sub (.len (.x 0)) (.x 3)) (.i 1)) (.neg (.i 1)) (.neg (.i 1)) [.asg (.nm 6) (.call (.g (.fn 226)) [(.slM (.x 0) (.bin .sub (.bin .add (.x 5) (.x 3)) (.i 2)) (.bin .add (.bin .add (.x 5) (.x 3)) (.i 1))), (.ix (.x 1) (.bin .sub (.x 3) (.i 1))), (.ix (.x 1) (.bin .sub (.x 3) (.i 2))), (.x 2)]), .ife (.cmp .eq (.call (.g (.fn 233)) [(.x 0), (.x 1), (.x 6), (.x 5), (.x 2)]) (.i 1)) [.aug 6 .sub (.i 1), .ex (.call (.g (.fn 240)) [(.x 0), (.x 1), (.x 5), (.x 2)])] [], .asg (.sub (.x 4) (.x 5)) (.x 6)],
   .ret (.x 4)]
noncomputable def p_divrem_school : List S :=
  [.ife (.cmp .eq (.len (.x 1)) (.i 0)) [.bad] [],
   .ife (.cmp .lt (.call (.g (.fn 72)) [(.x 0), (.x 1)]) (.i 0)) [.ret (.tup [(.lst []), (.slA (.x 0))])] [],
   .ife (.cmp .eq (.len (.x 1)) (.i 1)) [.ret (.call (.g (.fn 219)) [(.x 0), (.x 1), (.x 2)])] [],
   .asg (.nm 3) (.bin .sub (.x 2) (.call (.g (.fn 114)) [(.lst [(.ix (.x 1) (.neg (.i 1)))]), (.x 2)])),
   .asg (.nm 4) (.call (.g (.fn 100)) [(.x 1), (.x 3), (.x 2)]),
   .asg (.nm 5) (.call (.g (.fn 100)) [(.x 0), (.x 3), (.x 2)]),
   .asg (.nm 5) (.bin .add (.x 5) (.bin .mul (.lst [(.i 0)]) (.bin .sub (.bin .add (.len (.x 0)) (.i 1)) (.len (.x 5))))),
   .asg (.nm 6) (.call (.g (.fn 247)) [(.x 5), (.x 4), (.x 2)]),
   .ret (.tup [(.call (.g (.fn 65)) [(.x 6)]), (.call (.g (.fn 107)) [(.call (.g (.fn 65)) [(.x 5)]), (.x 3), (.x 2)])])]
noncomputable def p_law_next : List S :=
  [.asg (.sub (.x 0) (.i 0)) (.bin .add (.ix (.x 0) (.i 0)) (.i 1)),
   .ife (.cmp .le (.ix (.x 0) (.i 0)) (.len (.ix (.x 0) (.i 1)))) [.ret (.bin .mod (.ix (.ix (.x 0) (.i 1)) (.bin .sub (.ix (.x 0) (.i 0)) (.i 1))) (.x 1))] [],
   .ret (.bin .mod (.bin .add (.bin .add (.bin .mul (.i 3) (.ix (.x 0) (.i 0))) (.bin .fdiv (.ix (.x 0) (.i 0)) (.i 2))) (.i 1)) (.x 1))]
noncomputable def p_law_limbs : List S :=
  [.asg (.nm 2) (.lst []),
   .whl (.cmp .gt (.x 0) (.i 0)) [.app (.x 2) (.bin .mod (.x 0) (.bin .pow (.i 2) (.x 1))), .asg (.nm 0) (.bin .fdiv (.x 0) (.bin .pow (.i 2) (.x 1)))],
   .ret (.x 2)]
noncomputable def p_law_signed : List S :=
  [.ret (.tup [(.cmp .lt (.x 0) (.i 0)), (.call (.g (.fn 268)) [(.abs (.x 0)), (.x 1)])])]
noncomputable def p_law_plain : List S :=
  [.asg (.nm 2) (.i 0),
   .forL 3 (.rev (.ix (.x 0) (.i 1))) [.asg (.nm 2) (.bin .add (.bin .mul (.x 2) (.bin .pow (.i 2) (.x 1))) (.x 3))],
   .ret (.ite (.ix (.x 0) (.i 0)) (.bin .sub (.i 0) (.x 2)) (.x 2))]
noncomputable def p_law : List S :=
  [.asg (.nm 1) (.lst [(.i 0), (.cmpL (.slL (.x 0) (.i 6)) 101 (.abs (.toI (.x 101))))]),
   .asgT [(.nm 3), (.nm 4), (.nm 5)] [(.bin .add (.i 4) (.call (.g (.fn 261)) [(.x 1), (.i 5)])), (.cmpR (.i 0) (.i 4) 101 (.bin .sub (.call (.g (.fn 261)) [(.x 1), (.i 19)]) (.i 9))), (.lst [])],
   .forR 2 (.i 1) (.i 5) (.i 1) [.app (.x 5) (.bin .sub (.ix (.x 4) (.bin .sub (.x 2) (.i 1))) (.sum (.cmpF (.i 1) (.x 2) 101 (.cmp .eq (.bin .mod (.x 2) (.x 101)) (.i 0)) (.ix (.x 5) (.bin .sub (.x 101) (.i 1))))))],
   .asgT [(.nm 7), (.nm 8)] [(.lst []), (.i 1)],
   .forR 2 (.i 1) (.i 5) (.i 1) [.asg (.nm 9) (.lst []), .forR 6 (.i 1) (.i 5) (.i 1) [.asg (.nm 10) (.call (.g (.fn 21)) [(.call (.g (.fn 268)) [(.x 2), (.x 3)]), (.call (.g (.fn 268)) [(.x 6), (.x 3)]), (.x 3), (.g (.fn 254))]), .app (.x 9) (.call (.g (.fn 275)) [(.ix (.x 4) (.bin .sub (.call (.g (.fn 282)) [(.tup [(.b false), (.x 10)]), (.x 3)]) (.i 1))), (.x 3)])], .app (.x 7) (.x 9)],
   .ife (.cmp .ne (.call (.g (.fn 172)) [(.x 7)]) (.x 7)) [.ret (.b false)] [],
   .forR 11 (.i 1) (.i 5) (.i 1) [.asg (.nm 8) (.bin .mul (.x 8) (.ix (.x 5) (.bin .sub (.x 11) (.i 1)))), .ife (.cmp .ne (.call (.g (.fn 205)) [(.cmpL (.slL (.x 7) (.x 11)) 101 (.slL (.x 101) (.x 11))), (.x 3), (.g (.fn 212)), (.g (.fn 254))]) (.call (.g (.fn 275)) [(.x 8), (.x 3)])) [.ret (.b false)] []],
   .ret (.b true)]
noncomputable def prgL : List (Nat × Nat × List S) := [
  (21, 4, p_gcd_plain),
  (65, 1, p_normal),
  (72, 2, p_compare),
  (79, 3, p_add),
  (86, 3, p_sub),
  (93, 3, p_divrem_limb),
  (100, 3, p_shift_left),
  (107, 3, p_shift_right),
  (114, 2, p_bits),
  (121, 2, p_signed),
  (128, 1, p_s_neg),
  (135, 1, p_s_sign),
  (142, 3, p_s_add),
  (149, 3, p_s_sub),
  (156, 4, p_s_mul),
  (163, 4, p_tdiv),
  (172, 1, p_m_turned),
  (179, 4, p_exact),
  (186, 3, p_pivot_row),
  (193, 7, p_cleared),
  (198, 5, p_steps_down),
  (205, 4, p_det_bareiss),
  (212, 3, p_mul_school),
  (219, 3, p_divrem_small),
  (226, 4, p_guessed_limb),
  (233, 5, p_take_away),
  (240, 4, p_put_back),
  (247, 3, p_divide_rows),
  (254, 3, p_divrem_school),
  (261, 2, p_law_next),
  (268, 2, p_law_limbs),
  (275, 2, p_law_signed),
  (282, 2, p_law_plain),
  (287, 1, p_law)]
noncomputable def prg : Prg := fun f => prgL.lookup f
end Mine
end

set_option maxRecDepth 100000
namespace Mine
open PySem PySem.W PySem.Calls PyProof.Rows
noncomputable def K0 (P : Params) : Frag :=
  [(3,
  { cls := Value.type "dict",
    data :=
      Data.dict
        #[{ hash := PyData.keyHash P (Str.ofString "__name__"), key := Value.str (Str.ofString "__name__") 165,
            val := Value.str (Str.ofString "law_xm0442_01") 582 },
          { hash := PyData.keyHash P (Str.ofString "__doc__"), key := Value.str (Str.ofString "__doc__") 166,
            val := Value.none },
          { hash := PyData.keyHash P (Str.ofString "__package__"), key := Value.str (Str.ofString "__package__") 167,
            val := Value.none },
          { hash := PyData.keyHash P (Str.ofString "__loader__"), key := Value.str (Str.ofString "__loader__") 168,
            val := Value.builtin "__main__.__loader__#opaque" },
          { hash := PyData.keyHash P (Str.ofString "__spec__"), key := Value.str (Str.ofString "__spec__") 169,
            val := Value.none },
          { hash := PyData.keyHash P (Str.ofString "__annotations__"),
            key := Value.str (Str.ofString "__annotations__") 170, val := Value.ref 6 },
          { hash := PyData.keyHash P (Str.ofString "__builtins__"), key := Value.str (Str.ofString "__builtins__") 171,
            val := Value.ref 4 },
          { hash := PyData.keyHash P (Str.ofString "__file__"), key := Value.str (Str.ofString "__file__") 173,
            val := Value.str (Str.ofString "/claim/cut.py") 172 },
          { hash := PyData.keyHash P (Str.ofString "__cached__"), key := Value.str (Str.ofString "__cached__") 174,
            val := Value.none },
          { hash := PyData.keyHash P (Str.ofString "gcd_plain"), key := Value.str (Str.ofString "gcd_plain") 198,
            val := Value.ref 21 },
          { hash := PyData.keyHash P (Str.ofString "GmpError"), key := Value.str (Str.ofString "GmpError") 220,
            val := Value.ref 31 },
          { hash := PyData.keyHash P (Str.ofString "DivisionByZero"),
            key := Value.str (Str.ofString "DivisionByZero") 236, val := Value.ref 44 },
          { hash := PyData.keyHash P (Str.ofString "OutOfRange"), key := Value.str (Str.ofString "OutOfRange") 252,
            val := Value.ref 56 },
          { hash := PyData.keyHash P (Str.ofString "normal"), key := Value.str (Str.ofString "normal") 260,
            val := Value.ref 65 },
          { hash := PyData.keyHash P (Str.ofString "compare"), key := Value.str (Str.ofString "compare") 269,
            val := Value.ref 72 },
          { hash := PyData.keyHash P (Str.ofString "add"), key := Value.str (Str.ofString "add") 282,
            val := Value.ref 79 },
          { hash := PyData.keyHash P (Str.ofString "sub"), key := Value.str (Str.ofString "sub") 296,
            val := Value.ref 86 },
          { hash := PyData.keyHash P (Str.ofString "divrem_limb"), key := Value.str (Str.ofString "divrem_limb") 308,
            val := Value.ref 93 },
          { hash := PyData.keyHash P (Str.ofString "shift_left"), key := Value.str (Str.ofString "shift_left") 323,
            val := Value.ref 100 },
          { hash := PyData.keyHash P (Str.ofString "shift_right"), key := Value.str (Str.ofString "shift_right") 338,
            val := Value.ref 107 },
          { hash := PyData.keyHash P (Str.ofString "bits"), key := Value.str (Str.ofString "bits") 346,
            val := Value.ref 114 },
          { hash := PyData.keyHash P (Str.ofString "signed"), key := Value.str (Str.ofString "signed") 356,
            val := Value.ref 121 },
          { hash := PyData.keyHash P (Str.ofString "s_neg"), key := Value.str (Str.ofString "s_neg") 363,
            val := Value.ref 128 },
          { hash := PyData.keyHash P (Str.ofString "s_sign"), key := Value.str (Str.ofString "s_sign") 370,
            val := Value.ref 135 },
          { hash := PyData.keyHash P (Str.ofString "s_add"), key := Value.str (Str.ofString "s_add") 379,
            val := Value.ref 142 },
          { hash := PyData.keyHash P (Str.ofString "s_sub"), key := Value.str (Str.ofString "s_sub") 388,
            val := Value.ref 149 },
          { hash := PyData.keyHash P (Str.ofString "s_mul"), key := Value.str (Str.ofString "s_mul") 398,
            val := Value.ref 156 },
          { hash := PyData.keyHash P (Str.ofString "tdiv"), key := Value.str (Str.ofString "tdiv") 410,
            val := Value.ref 163 },
          { hash := PyData.keyHash P (Str.ofString "NOUGHT"), key := Value.str (Str.ofString "NOUGHT") 413,
            val := Value.ref 165 },
          { hash := PyData.keyHash P (Str.ofString "UNIT"), key := Value.str (Str.ofString "UNIT") 415,
            val := Value.ref 167 },
          { hash := PyData.keyHash P (Str.ofString "m_turned"), key := Value.str (Str.ofString "m_turned") 421,
            val := Value.ref 172 },
          { hash := PyData.keyHash P (Str.ofString "exact"), key := Value.str (Str.ofString "exact") 433,
            val := Value.ref 179 },
          { hash := PyData.keyHash P (Str.ofString "pivot_row"), key := Value.str (Str.ofString "pivot_row") 443,
            val := Value.ref 186 },
          { hash := PyData.keyHash P (Str.ofString "cleared"), key := Value.str (Str.ofString "cleared") 462,
            val := Value.ref 193 },
          { hash := PyData.keyHash P (Str.ofString "steps_down"), key := Value.str (Str.ofString "steps_down") 468,
            val := Value.ref 198 },
          { hash := PyData.keyHash P (Str.ofString "det_bareiss"), key := Value.str (Str.ofString "det_bareiss") 482,
            val := Value.ref 205 },
          { hash := PyData.keyHash P (Str.ofString "mul_school"), key := Value.str (Str.ofString "mul_school") 500,
            val := Value.ref 212 },
          { hash := PyData.keyHash P (Str.ofString "divrem_small"), key := Value.str (Str.ofString "divrem_small") 511,
            val := Value.ref 219 },
          { hash := PyData.keyHash P (Str.ofString "guessed_limb"), key := Value.str (Str.ofString "guessed_limb") 525,
            val := Value.ref 226 },
          { hash := PyData.keyHash P (Str.ofString "take_away"), key := Value.str (Str.ofString "take_away") 541,
            val := Value.ref 233 },
          { hash := PyData.keyHash P (Str.ofString "put_back"), key := Value.str (Str.ofString "put_back") 555,
            val := Value.ref 240 },
          { hash := PyData.keyHash P (Str.ofString "divide_rows"), key := Value.str (Str.ofString "divide_rows") 568,
            val := Value.ref 247 },
          { hash := PyData.keyHash P (Str.ofString "divrem_school"),
            key := Value.str (Str.ofString "divrem_school") 581, val := Value.ref 254 },
          { hash := PyData.keyHash P (Str.ofString "_law_next"), key := Value.str (Str.ofString "_law_next") 591,
            val := Value.ref 261 },
          { hash := PyData.keyHash P (Str.ofString "_law_limbs"), key := Value.str (Str.ofString "_law_limbs") 600,
            val := Value.ref 268 },
          { hash := PyData.keyHash P (Str.ofString "_law_signed"), key := Value.str (Str.ofString "_law_signed") 608,
            val := Value.ref 275 },
          { hash := PyData.keyHash P (Str.ofString "_law_plain"), key := Value.str (Str.ofString "_law_plain") 618,
            val := Value.ref 282 },
          { hash := PyData.keyHash P (Str.ofString "law"), key := Value.str (Str.ofString "law") 624,
            val := Value.ref 287 }]
        48 }),
   (164, { cls := Value.type "list", data := Data.seq #[] }),
   (165, { cls := Value.type "tuple", data := Data.seq #[Value.bool false, Value.ref 164] }),
   (166, { cls := Value.type "list", data := Data.seq #[Value.int 1 414] }),
   (167, { cls := Value.type "tuple", data := Data.seq #[Value.bool false, Value.ref 166] })]

noncomputable def recs : List DefRec := recsOf PySem.Challenge.pw_xm0442_01
noncomputable def parOk (params : Arguments) (scope : Scope) (n : Nat) : Bool :=
  scope.kind == .function && !scope.isCoroutine && !scope.isGenerator &&
  namesOk scope.names && varsOk (cxOf gls scope) && scope.names.all (fun p => p.2 != .free) &&
  decide ((params.args.map (·.arg)).Nodup) && decide ((params.args.map (·.arg)).length = n) && n < 100 &&
  (params.args.map (·.arg)).zipIdx.all fun p => (scope.names.lookup p.1 == some .local || scope.names.lookup p.1 == some .cell) && (cxOf gls scope).vars.lookup p.1 == some p.2
structure FnShape (d : DefRec) (n : Nat) (body : List S) : Prop where
  ok : parOk d.params d.scope n = true
  c : cFn (d.body, d.scope) = some body
  bind : ∀ pm code doc (args : List Value), args.length = n → bindArgs (docDef d.name d.params d.body d.scope pm code doc) ⟨args, []⟩ = pure ((d.params.args.map (·.arg)).zip args)
theorem FnShape.fdok {d : DefRec} {n : Nat} {body : List S} (x : FnShape d n body) (pm code doc : Value) : fdOk (docDef d.name d.params d.body d.scope pm code doc) n = true := by
  have h := x.ok
  simp only [parOk, Bool.and_eq_true] at h
  simp only [fdOk, docDef, pnames, Bool.and_eq_true]
  obtain ⟨⟨⟨⟨⟨⟨⟨⟨⟨h1, h2⟩, h3⟩, h4⟩, h5⟩, h6⟩, h7⟩, h8⟩, h9⟩, h10⟩ := h
  exact ⟨⟨⟨⟨⟨⟨⟨⟨⟨⟨⟨⟨rfl, by simp⟩, by simp⟩, h1⟩, h2⟩, h3⟩, h4⟩, h5⟩, h6⟩, h7⟩, h8⟩, h9⟩, h10⟩
theorem FnOK.ofTop {p : Program} {loose : List Str} {mean : ExcName → Option Value} {mg mb : Str → Option Value} {hb : Heap} {P : Params} {f n : Nat} {body : List S} {x : Str} (KX : (K0 P).In hb) (T : Top p loose mean mg mb hb) (hrec : ∀ d ∈ recs, d ∈ recsOf p)
    (hx : nsIn (K0 P) mainGlobals x = some (some (.ref f))) (h : ∃ d ∈ recs, d.name = x ∧ FnShape d n body) : FnOK hb f n body := by
  obtain ⟨d, hd, rfl, hs⟩ := h
  obtain ⟨a, o, pm, code, doc, h1, h2, h3, h4⟩ := T.fn d (hrec d hd)
  have h5 := mg_of KX T.g hx
  rw [h1] at h5
  cases h5
  exact ⟨o, _, d.body, h2, h3, rfl, h4, hs.fdok pm code doc, hs.c, hs.bind pm code doc⟩
theorem ar0 {P : List Value → Prop} (h : P []) : ∀ args : List Value, args.length = 0 → P args := fun args e => by cases List.eq_nil_of_length_eq_zero e; exact h
theorem ar1 {P : List Value → Prop} (h : ∀ a, P [a]) : ∀ args : List Value, args.length = 1 → P args := fun args e => by
  cases args with
  | nil => exact nomatch e
  | cons a l => exact ar0 (P := fun l => P (a :: l)) (h a) l (Nat.succ.inj e)
theorem ar2 {P : List Value → Prop} (h : ∀ a b, P [a, b]) : ∀ args : List Value, args.length = 2 → P args := fun args e => by
  cases args with
  | nil => exact nomatch e
  | cons a l => exact ar1 (P := fun l => P (a :: l)) (h a) l (Nat.succ.inj e)
theorem ar3 {P : List Value → Prop} (h : ∀ a b c, P [a, b, c]) : ∀ args : List Value, args.length = 3 → P args := fun args e => by
  cases args with
  | nil => exact nomatch e
  | cons a l => exact ar2 (P := fun l => P (a :: l)) (h a) l (Nat.succ.inj e)
theorem ar4 {P : List Value → Prop} (h : ∀ a b c d, P [a, b, c, d]) : ∀ args : List Value, args.length = 4 → P args := fun args e => by
  cases args with
  | nil => exact nomatch e
  | cons a l => exact ar3 (P := fun l => P (a :: l)) (h a) l (Nat.succ.inj e)
theorem ar5 {P : List Value → Prop} (h : ∀ a b c d e, P [a, b, c, d, e]) : ∀ args : List Value, args.length = 5 → P args := fun args e => by
  cases args with
  | nil => exact nomatch e
  | cons a l => exact ar4 (P := fun l => P (a :: l)) (h a) l (Nat.succ.inj e)
theorem ar6 {P : List Value → Prop} (h : ∀ a b c d e f, P [a, b, c, d, e, f]) : ∀ args : List Value, args.length = 6 → P args := fun args e => by
  cases args with
  | nil => exact nomatch e
  | cons a l => exact ar5 (P := fun l => P (a :: l)) (h a) l (Nat.succ.inj e)
theorem ar7 {P : List Value → Prop} (h : ∀ a b c d e f g, P [a, b, c, d, e, f, g]) : ∀ args : List Value, args.length = 7 → P args := fun args e => by
  cases args with
  | nil => exact nomatch e
  | cons a l => exact ar6 (P := fun l => P (a :: l)) (h a) l (Nat.succ.inj e)

theorem sh_21 : ∃ d ∈ recs, d.name = Str.ofString "gcd_plain" ∧ FnShape d 4 p_gcd_plain := by
  refine ⟨?d, List.mem_of_getElem? (i := 0) ?h1, ?h2, ⟨?h3, ?h4, ?h5⟩⟩
  case h1 => exact rfl
  case h2 => exact rfl
  case h3 => decide +kernel
  case h4 => exact rfl
  case h5 => exact fun pm code doc => ar4 fun a b c d => rfl
theorem sh_65 : ∃ d ∈ recs, d.name = Str.ofString "normal" ∧ FnShape d 1 p_normal := by
  refine ⟨?d, List.mem_of_getElem? (i := 1) ?h1, ?h2, ⟨?h3, ?h4, ?h5⟩⟩
  case h1 => exact rfl
  case h2 => exact rfl
  case h3 => decide +kernel
  case h4 => exact rfl
  case h5 => exact fun pm code doc => ar1 fun a => rfl
theorem sh_72 : ∃ d ∈ recs, d.name = Str.ofString "compare" ∧ FnShape d 2 p_compare := by
  refine ⟨?d, List.mem_of_getElem? (i := 2) ?h1, ?h2, ⟨?h3, ?h4, ?h5⟩⟩
  case h1 => exact rfl
  case h2 => exact rfl
  case h3 => decide +kernel
  case h4 => exact rfl
  case h5 => exact fun pm code doc => ar2 fun a b => rfl
theorem sh_79 : ∃ d ∈ recs, d.name = Str.ofString "add" ∧ FnShape d 3 p_add := by
  refine ⟨?d, List.mem_of_getElem? (i := 3) ?h1, ?h2, ⟨?h3, ?h4, ?h5⟩⟩
  case h1 => exact rfl
  case h2 => exact rfl
  case h3 => decide +kernel
  case h4 => exact rfl
  case h5 => exact fun pm code doc => ar3 fun a b c => rfl
theorem sh_86 : ∃ d ∈ recs, d.name = Str.ofString "sub" ∧ FnShape d 3 p_sub := by
  refine ⟨?d, List.mem_of_getElem? (i := 4) ?h1, ?h2, ⟨?h3, ?h4, ?h5⟩⟩
  case h1 => exact rfl
  case h2 => exact rfl
  case h3 => decide +kernel
  case h4 => exact rfl
  case h5 => exact fun pm code doc => ar3 fun a b c => rfl
theorem sh_93 : ∃ d ∈ recs, d.name = Str.ofString "divrem_limb" ∧ FnShape d 3 p_divrem_limb := by
  refine ⟨?d, List.mem_of_getElem? (i := 5) ?h1, ?h2, ⟨?h3, ?h4, ?h5⟩⟩
  case h1 => exact rfl
  case h2 => exact rfl
  case h3 => decide +kernel
  case h4 => exact rfl
  case h5 => exact fun pm code doc => ar3 fun a b c => rfl
theorem sh_100 : ∃ d ∈ recs, d.name = Str.ofString "shift_left" ∧ FnShape d 3 p_shift_left := by
  refine ⟨?d, List.mem_of_getElem? (i := 6) ?h1, ?h2, ⟨?h3, ?h4, ?h5⟩⟩
  case h1 => exact rfl
  case h2 => exact rfl
  case h3 => decide +kernel
  case h4 => exact rfl
  case h5 => exact fun pm code doc => ar3 fun a b c => rfl
theorem sh_107 : ∃ d ∈ recs, d.name = Str.ofString "shift_right" ∧ FnShape d 3 p_shift_right := by
  refine ⟨?d, List.mem_of_getElem? (i := 7) ?h1, ?h2, ⟨?h3, ?h4, ?h5⟩⟩
  case h1 => exact rfl
  case h2 => exact rfl
  case h3 => decide +kernel
  case h4 => exact rfl
  case h5 => exact fun pm code doc => ar3 fun a b c => rfl
theorem sh_114 : ∃ d ∈ recs, d.name = Str.ofString "bits" ∧ FnShape d 2 p_bits := by
  refine ⟨?d, List.mem_of_getElem? (i := 8) ?h1, ?h2, ⟨?h3, ?h4, ?h5⟩⟩
  case h1 => exact rfl
  case h2 => exact rfl
  case h3 => decide +kernel
  case h4 => exact rfl
  case h5 => exact fun pm code doc => ar2 fun a b => rfl
theorem sh_121 : ∃ d ∈ recs, d.name = Str.ofString "signed" ∧ FnShape d 2 p_signed := by
  refine ⟨?d, List.mem_of_getElem? (i := 9) ?h1, ?h2, ⟨?h3, ?h4, ?h5⟩⟩
  case h1 => exact rfl
  case h2 => exact rfl
  case h3 => decide +kernel
  case h4 => exact rfl
  case h5 => exact fun pm code doc => ar2 fun a b => rfl
theorem sh_128 : ∃ d ∈ recs, d.name = Str.ofString "s_neg" ∧ FnShape d 1 p_s_neg := by
  refine ⟨?d, List.mem_of_getElem? (i := 10) ?h1, ?h2, ⟨?h3, ?h4, ?h5⟩⟩
  case h1 => exact rfl
  case h2 => exact rfl
  case h3 => decide +kernel
  case h4 => exact rfl
  case h5 => exact fun pm code doc => ar1 fun a => rfl
theorem sh_135 : ∃ d ∈ recs, d.name = Str.ofString "s_sign" ∧ FnShape d 1 p_s_sign := by
  refine ⟨?d, List.mem_of_getElem? (i := 11) ?h1, ?h2, ⟨?h3, ?h4, ?h5⟩⟩
  case h1 => exact rfl
  case h2 => exact rfl
  case h3 => decide +kernel
  case h4 => exact rfl
  case h5 => exact fun pm code doc => ar1 fun a => rfl
theorem sh_142 : ∃ d ∈ recs, d.name = Str.ofString "s_add" ∧ FnShape d 3 p_s_add := by
  refine ⟨?d, List.mem_of_getElem? (i := 12) ?h1, ?h2, ⟨?h3, ?h4, ?h5⟩⟩
  case h1 => exact rfl
  case h2 => exact rfl
  case h3 => decide +kernel
  case h4 => exact rfl
  case h5 => exact fun pm code doc => ar3 fun a b c => rfl
theorem sh_149 : ∃ d ∈ recs, d.name = Str.ofString "s_sub" ∧ FnShape d 3 p_s_sub := by
  refine ⟨?d, List.mem_of_getElem? (i := 13) ?h1, ?h2, ⟨?h3, ?h4, ?h5⟩⟩
  case h1 => exact rfl
  case h2 => exact rfl
  case h3 => decide +kernel
  case h4 => exact rfl
  case h5 => exact fun pm code doc => ar3 fun a b c => rfl
theorem sh_156 : ∃ d ∈ recs, d.name = Str.ofString "s_mul" ∧ FnShape d 4 p_s_mul := by
  refine ⟨?d, List.mem_of_getElem? (i := 14) ?h1, ?h2, ⟨?h3, ?h4, ?h5⟩⟩
  case h1 => exact rfl
  case h2 => exact rfl
  case h3 => decide +kernel
  case h4 => exact rfl
  case h5 => exact fun pm code doc => ar4 fun a b c d => rfl
theorem sh_163 : ∃ d ∈ recs, d.name = Str.ofString "tdiv" ∧ FnShape d 4 p_tdiv := by
  refine ⟨?d, List.mem_of_getElem? (i := 15) ?h1, ?h2, ⟨?h3, ?h4, ?h5⟩⟩
  case h1 => exact rfl
  case h2 => exact rfl
  case h3 => decide +kernel
  case h4 => exact rfl
  case h5 => exact fun pm code doc => ar4 fun a b c d => rfl
theorem sh_172 : ∃ d ∈ recs, d.name = Str.ofString "m_turned" ∧ FnShape d 1 p_m_turned := by
  refine ⟨?d, List.mem_of_getElem? (i := 16) ?h1, ?h2, ⟨?h3, ?h4, ?h5⟩⟩
  case h1 => exact rfl
  case h2 => exact rfl
  case h3 => decide +kernel
  case h4 => exact rfl
  case h5 => exact fun pm code doc => ar1 fun a => rfl
theorem sh_179 : ∃ d ∈ recs, d.name = Str.ofString "exact" ∧ FnShape d 4 p_exact := by
  refine ⟨?d, List.mem_of_getElem? (i := 17) ?h1, ?h2, ⟨?h3, ?h4, ?h5⟩⟩
  case h1 => exact rfl
  case h2 => exact rfl
  case h3 => decide +kernel
  case h4 => exact rfl
  case h5 => exact fun pm code doc => ar4 fun a b c d => rfl
theorem sh_186 : ∃ d ∈ recs, d.name = Str.ofString "pivot_row" ∧ FnShape d 3 p_pivot_row := by
  refine ⟨?d, List.mem_of_getElem? (i := 18) ?h1, ?h2, ⟨?h3, ?h4, ?h5⟩⟩
  case h1 => exact rfl
  case h2 => exact rfl
  case h3 => decide +kernel
  case h4 => exact rfl
  case h5 => exact fun pm code doc => ar3 fun a b c => rfl
theorem sh_193 : ∃ d ∈ recs, d.name = Str.ofString "cleared" ∧ FnShape d 7 p_cleared := by
  refine ⟨?d, List.mem_of_getElem? (i := 19) ?h1, ?h2, ⟨?h3, ?h4, ?h5⟩⟩
  case h1 => exact rfl
  case h2 => exact rfl
  case h3 => decide +kernel
  case h4 => exact rfl
  case h5 => exact fun pm code doc => ar7 fun a b c d e f g => rfl
theorem sh_198 : ∃ d ∈ recs, d.name = Str.ofString "steps_down" ∧ FnShape d 5 p_steps_down := by
  refine ⟨?d, List.mem_of_getElem? (i := 20) ?h1, ?h2, ⟨?h3, ?h4, ?h5⟩⟩
  case h1 => exact rfl
  case h2 => exact rfl
  case h3 => decide +kernel
  case h4 => exact rfl
  case h5 => exact fun pm code doc => ar5 fun a b c d e => rfl
theorem sh_205 : ∃ d ∈ recs, d.name = Str.ofString "det_bareiss" ∧ FnShape d 4 p_det_bareiss := by
  refine ⟨?d, List.mem_of_getElem? (i := 21) ?h1, ?h2, ⟨?h3, ?h4, ?h5⟩⟩
  case h1 => exact rfl
  case h2 => exact rfl
  case h3 => decide +kernel
  case h4 => exact rfl
  case h5 => exact fun pm code doc => ar4 fun a b c d => rfl
theorem sh_212 : ∃ d ∈ recs, d.name = Str.ofString "mul_school" ∧ FnShape d 3 p_mul_school := by
  refine ⟨?d, List.mem_of_getElem? (i := 22) ?h1, ?h2, ⟨?h3, ?h4, ?h5⟩⟩
  case h1 => exact rfl
  case h2 => exact rfl
  case h3 => decide +kernel
  case h4 => exact rfl
  case h5 => exact fun pm code doc => ar3 fun a b c => rfl
theorem sh_219 : ∃ d ∈ recs, d.name = Str.ofString "divrem_small" ∧ FnShape d 3 p_divrem_small := by
  refine ⟨?d, List.mem_of_getElem? (i := 23) ?h1, ?h2, ⟨?h3, ?h4, ?h5⟩⟩
  case h1 => exact rfl
  case h2 => exact rfl
  case h3 => decide +kernel
  case h4 => exact rfl
  case h5 => exact fun pm code doc => ar3 fun a b c => rfl
theorem sh_226 : ∃ d ∈ recs, d.name = Str.ofString "guessed_limb" ∧ FnShape d 4 p_guessed_limb := by
  refine ⟨?d, List.mem_of_getElem? (i := 24) ?h1, ?h2, ⟨?h3, ?h4, ?h5⟩⟩
  case h1 => exact rfl
  case h2 => exact rfl
  case h3 => decide +kernel
  case h4 => exact rfl
  case h5 => exact fun pm code doc => ar4 fun a b c d => rfl
theorem sh_233 : ∃ d ∈ recs, d.name = Str.ofString "take_away" ∧ FnShape d 5 p_take_away := by
  refine ⟨?d, List.mem_of_getElem? (i := 25) ?h1, ?h2, ⟨?h3, ?h4, ?h5⟩⟩
  case h1 => exact rfl
  case h2 => exact rfl
  case h3 => decide +kernel
  case h4 => exact rfl
  case h5 => exact fun pm code doc => ar5 fun a b c d e => rfl
theorem sh_240 : ∃ d ∈ recs, d.name = Str.ofString "put_back" ∧ FnShape d 4 p_put_back := by
  refine ⟨?d, List.mem_of_getElem? (i := 26) ?h1, ?h2, ⟨?h3, ?h4, ?h5⟩⟩
  case h1 => exact rfl
  case h2 => exact rfl
  case h3 => decide +kernel
  case h4 => exact rfl
  case h5 => exact fun pm code doc => ar4 fun a b c d => rfl
theorem sh_247 : ∃ d ∈ recs, d.name = Str.ofString "divide_rows" ∧ FnShape d 3 p_divide_rows := by
  refine ⟨?d, List.mem_of_getElem? (i := 27) ?h1, ?h2, ⟨?h3, ?h4, ?h5⟩⟩
  case h1 => exact rfl
  case h2 => exact rfl
  case h3 => decide +kernel
  case h4 => exact rfl
  case h5 => exact fun pm code doc => ar3 fun a b c => rfl
theorem sh_254 : ∃ d ∈ recs, d.name = Str.ofString "divrem_school" ∧ FnShape d 3 p_divrem_school := by
  refine ⟨?d, List.mem_of_getElem? (i := 28) ?h1, ?h2, ⟨?h3, ?h4, ?h5⟩⟩
  case h1 => exact rfl
  case h2 => exact rfl
  case h3 => decide +kernel
  case h4 => exact rfl
  case h5 => exact fun pm code doc => ar3 fun a b c => rfl
theorem sh_261 : ∃ d ∈ recs, d.name = Str.ofString "_law_next" ∧ FnShape d 2 p_law_next := by
  refine ⟨?d, List.mem_of_getElem? (i := 29) ?h1, ?h2, ⟨?h3, ?h4, ?h5⟩⟩
  case h1 => exact rfl
  case h2 => exact rfl
  case h3 => decide +kernel
  case h4 => exact rfl
  case h5 => exact fun pm code doc => ar2 fun a b => rfl
theorem sh_268 : ∃ d ∈ recs, d.name = Str.ofString "_law_limbs" ∧ FnShape d 2 p_law_limbs := by
  refine ⟨?d, List.mem_of_getElem? (i := 30) ?h1, ?h2, ⟨?h3, ?h4, ?h5⟩⟩
  case h1 => exact rfl
  case h2 => exact rfl
  case h3 => decide +kernel
  case h4 => exact rfl
  case h5 => exact fun pm code doc => ar2 fun a b => rfl
theorem sh_275 : ∃ d ∈ recs, d.name = Str.ofString "_law_signed" ∧ FnShape d 2 p_law_signed := by
  refine ⟨?d, List.mem_of_getElem? (i := 31) ?h1, ?h2, ⟨?h3, ?h4, ?h5⟩⟩
  case h1 => exact rfl
  case h2 => exact rfl
  case h3 => decide +kernel
  case h4 => exact rfl
  case h5 => exact fun pm code doc => ar2 fun a b => rfl
theorem sh_282 : ∃ d ∈ recs, d.name = Str.ofString "_law_plain" ∧ FnShape d 2 p_law_plain := by
  refine ⟨?d, List.mem_of_getElem? (i := 32) ?h1, ?h2, ⟨?h3, ?h4, ?h5⟩⟩
  case h1 => exact rfl
  case h2 => exact rfl
  case h3 => decide +kernel
  case h4 => exact rfl
  case h5 => exact fun pm code doc => ar2 fun a b => rfl
theorem sh_287 : ∃ d ∈ recs, d.name = Str.ofString "law" ∧ FnShape d 1 p_law := by
  refine ⟨?d, List.mem_of_getElem? (i := 33) ?h1, ?h2, ⟨?h3, ?h4, ?h5⟩⟩
  case h1 => exact rfl
  case h2 => exact rfl
  case h3 => decide +kernel
  case h4 => exact rfl
  case h5 => exact fun pm code doc => ar1 fun a => rfl
theorem lookup_mem {β : Type} {a : Nat} {b : β} : ∀ {l : List (Nat × β)}, l.lookup a = some b → (a, b) ∈ l
  | (k, v) :: l, h => by
    rw [List.lookup_cons] at h
    cases e : a == k with
    | true => rw [e] at h; cases eq_of_beq e; cases h; exact List.mem_cons_self
    | false => rw [e] at h; exact List.mem_cons_of_mem _ (lookup_mem h)
theorem all_nil {α : Type} {P : α → Prop} : ∀ x ∈ ([] : List α), P x := fun x h => absurd h List.not_mem_nil
theorem all_cons {α : Type} {P : α → Prop} {a : α} {l : List α} (h : P a) (t : ∀ x ∈ l, P x) : ∀ x ∈ a :: l, P x := fun x hx => by
  rcases List.mem_cons.mp hx with rfl | hx
  · exact h
  · exact t x hx
noncomputable def FnQ (hb : Heap) (q : Nat × Nat × List S) : Prop := FnOK hb q.1 q.2.1 q.2.2
theorem prg_all {p : Program} {loose : List Str} {mean : ExcName → Option Value} {mg mb : Str → Option Value} {hb : Heap} {P : Params} (KX : (K0 P).In hb) (T : Top p loose mean mg mb hb) (hrec : ∀ d ∈ recs, d ∈ recsOf p) :
    ∀ q ∈ prgL, FnQ hb q :=
  all_cons (P := FnQ hb) (FnOK.ofTop KX T hrec rfl sh_21) <|
  all_cons (P := FnQ hb) (FnOK.ofTop KX T hrec rfl sh_65) <|
  all_cons (P := FnQ hb) (FnOK.ofTop KX T hrec rfl sh_72) <|
  all_cons (P := FnQ hb) (FnOK.ofTop KX T hrec rfl sh_79) <|
  all_cons (P := FnQ hb) (FnOK.ofTop KX T hrec rfl sh_86) <|
  all_cons (P := FnQ hb) (FnOK.ofTop KX T hrec rfl sh_93) <|
  all_cons (P := FnQ hb) (FnOK.ofTop KX T hrec rfl sh_100) <|
  all_cons (P := FnQ hb) (FnOK.ofTop KX T hrec rfl sh_107) <|
  all_cons (P := FnQ hb) (FnOK.ofTop KX T hrec rfl sh_114) <|
  all_cons (P := FnQ hb) (FnOK.ofTop KX T hrec rfl sh_121) <|
  all_cons (P := FnQ hb) (FnOK.ofTop KX T hrec rfl sh_128) <|
  all_cons (P := FnQ hb) (FnOK.ofTop KX T hrec rfl sh_135) <|
  all_cons (P := FnQ hb) (FnOK.ofTop KX T hrec rfl sh_142) <|
  all_cons (P := FnQ hb) (FnOK.ofTop KX T hrec rfl sh_149) <|
  all_cons (P := FnQ hb) (FnOK.ofTop KX T hrec rfl sh_156) <|
  all_cons (P := FnQ hb) (FnOK.ofTop KX T hrec rfl sh_163) <|
  all_cons (P := FnQ hb) (FnOK.ofTop KX T hrec rfl sh_172) <|
  all_cons (P := FnQ hb) (FnOK.ofTop KX T hrec rfl sh_179) <|
  all_cons (P := FnQ hb) (FnOK.ofTop KX T hrec rfl sh_186) <|
  all_cons (P := FnQ hb) (FnOK.ofTop KX T hrec rfl sh_193) <|
  all_cons (P := FnQ hb) (FnOK.ofTop KX T hrec rfl sh_198) <|
  all_cons (P := FnQ hb) (FnOK.ofTop KX T hrec rfl sh_205) <|
  all_cons (P := FnQ hb) (FnOK.ofTop KX T hrec rfl sh_212) <|
  all_cons (P := FnQ hb) (FnOK.ofTop KX T hrec rfl sh_219) <|
  all_cons (P := FnQ hb) (FnOK.ofTop KX T hrec rfl sh_226) <|
  all_cons (P := FnQ hb) (FnOK.ofTop KX T hrec rfl sh_233) <|
  all_cons (P := FnQ hb) (FnOK.ofTop KX T hrec rfl sh_240) <|
  all_cons (P := FnQ hb) (FnOK.ofTop KX T hrec rfl sh_247) <|
  all_cons (P := FnQ hb) (FnOK.ofTop KX T hrec rfl sh_254) <|
  all_cons (P := FnQ hb) (FnOK.ofTop KX T hrec rfl sh_261) <|
  all_cons (P := FnQ hb) (FnOK.ofTop KX T hrec rfl sh_268) <|
  all_cons (P := FnQ hb) (FnOK.ofTop KX T hrec rfl sh_275) <|
  all_cons (P := FnQ hb) (FnOK.ofTop KX T hrec rfl sh_282) <|
  all_cons (P := FnQ hb) (FnOK.ofTop KX T hrec rfl sh_287) <| all_nil
theorem prg_ok {p : Program} {loose : List Str} {mean : ExcName → Option Value} {mg mb : Str → Option Value} {hb : Heap} {P : Params} (KX : (K0 P).In hb) (T : Top p loose mean mg mb hb) (hrec : ∀ d ∈ recs, d ∈ recsOf p) :
    ∀ f n body, prg f = some (n, body) → FnOK hb f n body := by
  intro f n body h
  exact prg_all KX T hrec (f, n, body) (lookup_mem h)
end Mine

set_option linter.unusedVariables false
set_option autoImplicit false
set_option maxRecDepth 100000
namespace Mine
open PySem PySem.W PySem.Calls PyProof.Rows

theorem rvs_ints {φ : List Addr} : ∀ {vs : List Value} {ns : List Int}, IntsAre vs ns → RVs φ (ns.map .int) vs
  | _, _, .nil => .nil
  | _, _, .cons n t h => .cons ⟨t, rfl⟩ (rvs_ints h)

section
variable {p : Program} {loose : List Str} {mean : ExcName → Option Value} {mg mb : Str → Option Value} {hb : Heap} {P : Params} {sa : Addr}

noncomputable def MgQ (mg : Str → Option Value) (sa : Addr) (q : Str × V) : Prop := ∃ w, mg q.1 = some w ∧ RV [sa, 164, 165, 166, 167] q.2 w
theorem mg_all (KX : (K0 P).In hb) (G : hb.Ns mainGlobals mg) : ∀ q ∈ gls, MgQ mg sa q :=
  all_cons (P := MgQ mg sa) ⟨_, mg_of KX G rfl, 165, rfl, rfl⟩ <|
  all_cons (P := MgQ mg sa) ⟨_, mg_of KX G rfl, 167, rfl, rfl⟩ <|
  all_cons (P := MgQ mg sa) ⟨_, mg_of KX G rfl, rfl, by decide⟩ <|
  all_cons (P := MgQ mg sa) ⟨_, mg_of KX G rfl, rfl, by decide⟩ <|
  all_cons (P := MgQ mg sa) ⟨_, mg_of KX G rfl, rfl, by decide⟩ <|
  all_cons (P := MgQ mg sa) ⟨_, mg_of KX G rfl, rfl, by decide⟩ <|
  all_cons (P := MgQ mg sa) ⟨_, mg_of KX G rfl, rfl, by decide⟩ <|
  all_cons (P := MgQ mg sa) ⟨_, mg_of KX G rfl, rfl, by decide⟩ <|
  all_cons (P := MgQ mg sa) ⟨_, mg_of KX G rfl, rfl, by decide⟩ <|
  all_cons (P := MgQ mg sa) ⟨_, mg_of KX G rfl, rfl, by decide⟩ <|
  all_cons (P := MgQ mg sa) ⟨_, mg_of KX G rfl, rfl, by decide⟩ <|
  all_cons (P := MgQ mg sa) ⟨_, mg_of KX G rfl, rfl, by decide⟩ <|
  all_cons (P := MgQ mg sa) ⟨_, mg_of KX G rfl, rfl, by decide⟩ <|
  all_cons (P := MgQ mg sa) ⟨_, mg_of KX G rfl, rfl, by decide⟩ <|
  all_cons (P := MgQ mg sa) ⟨_, mg_of KX G rfl, rfl, by decide⟩ <|
  all_cons (P := MgQ mg sa) ⟨_, mg_of KX G rfl, rfl, by decide⟩ <|
  all_cons (P := MgQ mg sa) ⟨_, mg_of KX G rfl, rfl, by decide⟩ <|
  all_cons (P := MgQ mg sa) ⟨_, mg_of KX G rfl, rfl, by decide⟩ <|
  all_cons (P := MgQ mg sa) ⟨_, mg_of KX G rfl, rfl, by decide⟩ <|
  all_cons (P := MgQ mg sa) ⟨_, mg_of KX G rfl, rfl, by decide⟩ <|
  all_cons (P := MgQ mg sa) ⟨_, mg_of KX G rfl, rfl, by decide⟩ <|
  all_cons (P := MgQ mg sa) ⟨_, mg_of KX G rfl, rfl, by decide⟩ <|
  all_cons (P := MgQ mg sa) ⟨_, mg_of KX G rfl, rfl, by decide⟩ <|
  all_cons (P := MgQ mg sa) ⟨_, mg_of KX G rfl, rfl, by decide⟩ <|
  all_cons (P := MgQ mg sa) ⟨_, mg_of KX G rfl, rfl, by decide⟩ <|
  all_cons (P := MgQ mg sa) ⟨_, mg_of KX G rfl, rfl, by decide⟩ <|
  all_cons (P := MgQ mg sa) ⟨_, mg_of KX G rfl, rfl, by decide⟩ <|
  all_cons (P := MgQ mg sa) ⟨_, mg_of KX G rfl, rfl, by decide⟩ <|
  all_cons (P := MgQ mg sa) ⟨_, mg_of KX G rfl, rfl, by decide⟩ <|
  all_cons (P := MgQ mg sa) ⟨_, mg_of KX G rfl, rfl, by decide⟩ <|
  all_cons (P := MgQ mg sa) ⟨_, mg_of KX G rfl, rfl, by decide⟩ <|
  all_cons (P := MgQ mg sa) ⟨_, mg_of KX G rfl, rfl, by decide⟩ <|
  all_cons (P := MgQ mg sa) ⟨_, mg_of KX G rfl, rfl, by decide⟩ <|
  all_cons (P := MgQ mg sa) ⟨_, mg_of KX G rfl, rfl, by decide⟩ <|
  all_cons (P := MgQ mg sa) ⟨_, mg_of KX G rfl, rfl, by decide⟩ <|
  all_cons (P := MgQ mg sa) ⟨_, mg_of KX G rfl, rfl, by decide⟩ <| all_nil
theorem mg_nones (KX : (K0 P).In hb) (G : hb.Ns mainGlobals mg) : ∀ x ∈ [nLen, nRange, nMin, nAbs, nInt, nSum, nEnum], mg x = none := by
  intro x hx
  simp only [List.mem_cons, List.not_mem_nil, or_false] at hx
  rcases hx with rfl | rfl | rfl | rfl | rfl | rfl | rfl <;> exact mg_none_of KX G rfl

theorem stat_of (KX : (K0 P).In hb) (T : Top p loose mean mg mb hb) (hrec : ∀ d ∈ recs, d ∈ recsOf p) : Stat hb [sa, 164, 165, 166, 167] where
  mg := ⟨mg, T.g, fun x v h => mg_all KX T.g (x, v) (mem_of_lookup h), mg_nones KX T.g⟩
  mb := ⟨mb, T.b, (T.builtins _ (by decide)).trans rfl, (T.builtins _ (by decide)).trans rfl, (T.builtins _ (by decide)).trans rfl, (T.builtins _ (by decide)).trans rfl,
    (T.builtins _ (by decide)).trans rfl, (T.builtins _ (by decide)).trans rfl, (T.builtins _ (by decide)).trans rfl⟩
  nolimit := T.nolimit
  fns := fun f hf => by
    have h : ∀ f ∈ fnAddrs, ∃ n body, prg f = some (n, body) := by
      intro f hf
      simp only [fnAddrs, addrs, List.map_cons, List.map_nil, List.mem_cons, List.not_mem_nil, or_false] at hf
      rcases hf with rfl | rfl | rfl | rfl | rfl | rfl | rfl | rfl | rfl | rfl | rfl | rfl | rfl | rfl | rfl | rfl | rfl | rfl | rfl | rfl | rfl | rfl | rfl | rfl | rfl | rfl | rfl | rfl | rfl | rfl | rfl | rfl | rfl | rfl <;> exact ⟨_, _, rfl⟩
    obtain ⟨n, body, e⟩ := h f hf
    obtain ⟨o, fd, b, ho, hd, _⟩ := (prg_ok KX T hrec f n body e).ok
    exact ⟨o, fd, ho, hd⟩

noncomputable def heap0 (xs : List Int) : Hp := [.L (xs.map .int), .L [], .T [.bool false, .ref 1], .L [.int 1], .T [.bool false, .ref 3]]
theorem rep_of (KX : (K0 P).In hb) {ws : List Value} {xs : List Int} (hL : hb.IsList sa ws.toArray) (hI : IntsAre ws xs) (hl : xs.length ≤ 63) : Rep hb [sa, 164, 165, 166, 167] [sa, 164, 165, 166, 167] (heap0 xs) hb where
  stays := fun _ _ e => e
  nodup := fun i j a h5 hi _ => by
    have h5 : 5 ≤ i := h5
    have := (List.getElem?_eq_some_iff.mp hi).1
    simp at this; omega
  len := rfl
  five := Nat.le_refl _
  obj := fun i ob e => by
    match i, e with
    | 0, e =>
      cases e
      refine ⟨sa, rfl, ws, ?_, rvs_ints hI, hL⟩
      rw [List.length_map]; exact Nat.le_trans hl (by decide)
    | 1, e => cases e; exact ⟨164, rfl, [], by decide, .nil, _, KX 164 _ rfl, rfl, 0, rfl⟩
    | 2, e => cases e; exact ⟨165, rfl, [.bool false, .ref 164], by decide, .cons rfl (.cons ⟨164, rfl, rfl⟩ .nil), _, KX 165 _ rfl, rfl, 0, rfl⟩
    | 3, e => cases e; exact ⟨166, rfl, [.int 1 414], by decide, .cons ⟨414, rfl⟩ .nil, _, KX 166 _ rfl, rfl, 0, rfl⟩
    | 4, e => cases e; exact ⟨167, rfl, [.bool false, .ref 166], by decide, .cons rfl (.cons ⟨166, rfl, rfl⟩ .nil), _, KX 167 _ rfl, rfl, 0, rfl⟩
    | n + 5, e => simp [heap0] at e
  plain := fun i xs' a h5 e _ => by
    have h5 : 5 ≤ i := h5
    have := (List.getElem?_eq_some_iff.mp e).1
    simp [heap0] at this; omega
  new := fun a ha => by simp [ro] at ha
  pre := ⟨[], rfl⟩
end

end Mine

set_option linter.unusedVariables false
set_option autoImplicit false
namespace Mine
open PySem

/-! long conjunctions taken apart at once -/
theorem and3 {p0 p1 p2 P : Prop} (h : p0 ∧ p1 ∧ p2) (k : p0 → p1 → p2 → P) : P := k h.1 h.2.1 h.2.2
theorem and6 {p0 p1 p2 p3 p4 p5 P : Prop} (h : p0 ∧ p1 ∧ p2 ∧ p3 ∧ p4 ∧ p5) (k : p0 → p1 → p2 → p3 → p4 → p5 → P) : P := k h.1 h.2.1 h.2.2.1 h.2.2.2.1 h.2.2.2.2.1 h.2.2.2.2.2
theorem and7 {p0 p1 p2 p3 p4 p5 p6 P : Prop} (h : p0 ∧ p1 ∧ p2 ∧ p3 ∧ p4 ∧ p5 ∧ p6) (k : p0 → p1 → p2 → p3 → p4 → p5 → p6 → P) : P := k h.1 h.2.1 h.2.2.1 h.2.2.2.1 h.2.2.2.2.1 h.2.2.2.2.2.1 h.2.2.2.2.2.2
theorem and8 {p0 p1 p2 p3 p4 p5 p6 p7 P : Prop} (h : p0 ∧ p1 ∧ p2 ∧ p3 ∧ p4 ∧ p5 ∧ p6 ∧ p7) (k : p0 → p1 → p2 → p3 → p4 → p5 → p6 → p7 → P) : P := k h.1 h.2.1 h.2.2.1 h.2.2.2.1 h.2.2.2.2.1 h.2.2.2.2.2.1 h.2.2.2.2.2.2.1 h.2.2.2.2.2.2.2
theorem and9 {p0 p1 p2 p3 p4 p5 p6 p7 p8 P : Prop} (h : p0 ∧ p1 ∧ p2 ∧ p3 ∧ p4 ∧ p5 ∧ p6 ∧ p7 ∧ p8) (k : p0 → p1 → p2 → p3 → p4 → p5 → p6 → p7 → p8 → P) : P := k h.1 h.2.1 h.2.2.1 h.2.2.2.1 h.2.2.2.2.1 h.2.2.2.2.2.1 h.2.2.2.2.2.2.1 h.2.2.2.2.2.2.2.1 h.2.2.2.2.2.2.2.2
theorem and10 {p0 p1 p2 p3 p4 p5 p6 p7 p8 p9 P : Prop} (h : p0 ∧ p1 ∧ p2 ∧ p3 ∧ p4 ∧ p5 ∧ p6 ∧ p7 ∧ p8 ∧ p9) (k : p0 → p1 → p2 → p3 → p4 → p5 → p6 → p7 → p8 → p9 → P) : P := k h.1 h.2.1 h.2.2.1 h.2.2.2.1 h.2.2.2.2.1 h.2.2.2.2.2.1 h.2.2.2.2.2.2.1 h.2.2.2.2.2.2.2.1 h.2.2.2.2.2.2.2.2.1 h.2.2.2.2.2.2.2.2.2
theorem and11 {p0 p1 p2 p3 p4 p5 p6 p7 p8 p9 p10 P : Prop} (h : p0 ∧ p1 ∧ p2 ∧ p3 ∧ p4 ∧ p5 ∧ p6 ∧ p7 ∧ p8 ∧ p9 ∧ p10) (k : p0 → p1 → p2 → p3 → p4 → p5 → p6 → p7 → p8 → p9 → p10 → P) : P := k h.1 h.2.1 h.2.2.1 h.2.2.2.1 h.2.2.2.2.1 h.2.2.2.2.2.1 h.2.2.2.2.2.2.1 h.2.2.2.2.2.2.2.1 h.2.2.2.2.2.2.2.2.1 h.2.2.2.2.2.2.2.2.2.1 h.2.2.2.2.2.2.2.2.2.2
theorem and12 {p0 p1 p2 p3 p4 p5 p6 p7 p8 p9 p10 p11 P : Prop} (h : p0 ∧ p1 ∧ p2 ∧ p3 ∧ p4 ∧ p5 ∧ p6 ∧ p7 ∧ p8 ∧ p9 ∧ p10 ∧ p11) (k : p0 → p1 → p2 → p3 → p4 → p5 → p6 → p7 → p8 → p9 → p10 → p11 → P) : P := k h.1 h.2.1 h.2.2.1 h.2.2.2.1 h.2.2.2.2.1 h.2.2.2.2.2.1 h.2.2.2.2.2.2.1 h.2.2.2.2.2.2.2.1 h.2.2.2.2.2.2.2.2.1 h.2.2.2.2.2.2.2.2.2.1 h.2.2.2.2.2.2.2.2.2.2.1 h.2.2.2.2.2.2.2.2.2.2.2
theorem and14 {p0 p1 p2 p3 p4 p5 p6 p7 p8 p9 p10 p11 p12 p13 P : Prop} (h : p0 ∧ p1 ∧ p2 ∧ p3 ∧ p4 ∧ p5 ∧ p6 ∧ p7 ∧ p8 ∧ p9 ∧ p10 ∧ p11 ∧ p12 ∧ p13) (k : p0 → p1 → p2 → p3 → p4 → p5 → p6 → p7 → p8 → p9 → p10 → p11 → p12 → p13 → P) : P := k h.1 h.2.1 h.2.2.1 h.2.2.2.1 h.2.2.2.2.1 h.2.2.2.2.2.1 h.2.2.2.2.2.2.1 h.2.2.2.2.2.2.2.1 h.2.2.2.2.2.2.2.2.1 h.2.2.2.2.2.2.2.2.2.1 h.2.2.2.2.2.2.2.2.2.2.1 h.2.2.2.2.2.2.2.2.2.2.2.1 h.2.2.2.2.2.2.2.2.2.2.2.2.1 h.2.2.2.2.2.2.2.2.2.2.2.2.2
theorem and15 {p0 p1 p2 p3 p4 p5 p6 p7 p8 p9 p10 p11 p12 p13 p14 P : Prop} (h : p0 ∧ p1 ∧ p2 ∧ p3 ∧ p4 ∧ p5 ∧ p6 ∧ p7 ∧ p8 ∧ p9 ∧ p10 ∧ p11 ∧ p12 ∧ p13 ∧ p14) (k : p0 → p1 → p2 → p3 → p4 → p5 → p6 → p7 → p8 → p9 → p10 → p11 → p12 → p13 → p14 → P) : P := k h.1 h.2.1 h.2.2.1 h.2.2.2.1 h.2.2.2.2.1 h.2.2.2.2.2.1 h.2.2.2.2.2.2.1 h.2.2.2.2.2.2.2.1 h.2.2.2.2.2.2.2.2.1 h.2.2.2.2.2.2.2.2.2.1 h.2.2.2.2.2.2.2.2.2.2.1 h.2.2.2.2.2.2.2.2.2.2.2.1 h.2.2.2.2.2.2.2.2.2.2.2.2.1 h.2.2.2.2.2.2.2.2.2.2.2.2.2.1 h.2.2.2.2.2.2.2.2.2.2.2.2.2.2
theorem and16 {p0 p1 p2 p3 p4 p5 p6 p7 p8 p9 p10 p11 p12 p13 p14 p15 P : Prop} (h : p0 ∧ p1 ∧ p2 ∧ p3 ∧ p4 ∧ p5 ∧ p6 ∧ p7 ∧ p8 ∧ p9 ∧ p10 ∧ p11 ∧ p12 ∧ p13 ∧ p14 ∧ p15) (k : p0 → p1 → p2 → p3 → p4 → p5 → p6 → p7 → p8 → p9 → p10 → p11 → p12 → p13 → p14 → p15 → P) : P := k h.1 h.2.1 h.2.2.1 h.2.2.2.1 h.2.2.2.2.1 h.2.2.2.2.2.1 h.2.2.2.2.2.2.1 h.2.2.2.2.2.2.2.1 h.2.2.2.2.2.2.2.2.1 h.2.2.2.2.2.2.2.2.2.1 h.2.2.2.2.2.2.2.2.2.2.1 h.2.2.2.2.2.2.2.2.2.2.2.1 h.2.2.2.2.2.2.2.2.2.2.2.2.1 h.2.2.2.2.2.2.2.2.2.2.2.2.2.1 h.2.2.2.2.2.2.2.2.2.2.2.2.2.2.1 h.2.2.2.2.2.2.2.2.2.2.2.2.2.2.2
theorem and22 {p0 p1 p2 p3 p4 p5 p6 p7 p8 p9 p10 p11 p12 p13 p14 p15 p16 p17 p18 p19 p20 p21 P : Prop} (h : p0 ∧ p1 ∧ p2 ∧ p3 ∧ p4 ∧ p5 ∧ p6 ∧ p7 ∧ p8 ∧ p9 ∧ p10 ∧ p11 ∧ p12 ∧ p13 ∧ p14 ∧ p15 ∧ p16 ∧ p17 ∧ p18 ∧ p19 ∧ p20 ∧ p21) (k : p0 → p1 → p2 → p3 → p4 → p5 → p6 → p7 → p8 → p9 → p10 → p11 → p12 → p13 → p14 → p15 → p16 → p17 → p18 → p19 → p20 → p21 → P) : P := k h.1 h.2.1 h.2.2.1 h.2.2.2.1 h.2.2.2.2.1 h.2.2.2.2.2.1 h.2.2.2.2.2.2.1 h.2.2.2.2.2.2.2.1 h.2.2.2.2.2.2.2.2.1 h.2.2.2.2.2.2.2.2.2.1 h.2.2.2.2.2.2.2.2.2.2.1 h.2.2.2.2.2.2.2.2.2.2.2.1 h.2.2.2.2.2.2.2.2.2.2.2.2.1 h.2.2.2.2.2.2.2.2.2.2.2.2.2.1 h.2.2.2.2.2.2.2.2.2.2.2.2.2.2.1 h.2.2.2.2.2.2.2.2.2.2.2.2.2.2.2.1 h.2.2.2.2.2.2.2.2.2.2.2.2.2.2.2.2.1 h.2.2.2.2.2.2.2.2.2.2.2.2.2.2.2.2.2.1 h.2.2.2.2.2.2.2.2.2.2.2.2.2.2.2.2.2.2.1 h.2.2.2.2.2.2.2.2.2.2.2.2.2.2.2.2.2.2.2.1 h.2.2.2.2.2.2.2.2.2.2.2.2.2.2.2.2.2.2.2.2.1 h.2.2.2.2.2.2.2.2.2.2.2.2.2.2.2.2.2.2.2.2.2
theorem ex1 {A0 : Type} {p : A0 → Prop} {P : Prop} (h : ∃ x0, p x0) (k : ∀ x0, p x0 → P) : P := by
  obtain ⟨x0, h⟩ := h
  exact k _ h
theorem ex2 {A0 A1 : Type} {p : A0 → A1 → Prop} {P : Prop} (h : ∃ x0 x1, p x0 x1) (k : ∀ x0 x1, p x0 x1 → P) : P := by
  obtain ⟨x0, x1, h⟩ := h
  exact k _ _ h
theorem ex3 {A0 A1 A2 : Type} {p : A0 → A1 → A2 → Prop} {P : Prop} (h : ∃ x0 x1 x2, p x0 x1 x2) (k : ∀ x0 x1 x2, p x0 x1 x2 → P) : P := by
  obtain ⟨x0, x1, x2, h⟩ := h
  exact k _ _ _ h
theorem ex6 {A0 A1 A2 A3 A4 A5 : Type} {p : A0 → A1 → A2 → A3 → A4 → A5 → Prop} {P : Prop} (h : ∃ x0 x1 x2 x3 x4 x5, p x0 x1 x2 x3 x4 x5) (k : ∀ x0 x1 x2 x3 x4 x5, p x0 x1 x2 x3 x4 x5 → P) : P := by
  obtain ⟨x0, x1, x2, x3, x4, x5, h⟩ := h
  exact k _ _ _ _ _ _ h
theorem exI2 {A0 A1 : Type} {p : A0 → A1 → Prop} (x0 : A0) (x1 : A1) (h : p x0 x1) : ∃ y0 y1, p y0 y1 := ⟨x0, x1, h⟩
theorem exI3 {A0 A1 A2 : Type} {p : A0 → A1 → A2 → Prop} (x0 : A0) (x1 : A1) (x2 : A2) (h : p x0 x1 x2) : ∃ y0 y1 y2, p y0 y1 y2 := ⟨x0, x1, x2, h⟩
theorem exI6 {A0 A1 A2 A3 A4 A5 : Type} {p : A0 → A1 → A2 → A3 → A4 → A5 → Prop} (x0 : A0) (x1 : A1) (x2 : A2) (x3 : A3) (x4 : A4) (x5 : A5) (h : p x0 x1 x2 x3 x4 x5) : ∃ y0 y1 y2 y3 y4 y5, p y0 y1 y2 y3 y4 y5 := ⟨x0, x1, x2, x3, x4, x5, h⟩

/-! ## bits -/
theorem bitOr_nat (x y : Nat) : Builtin.bitOr (x : Int) (y : Int) = ((x ||| y : Nat) : Int) := by
  have hn : ∀ z : Nat, Builtin.bitNot (z : Int) = -(z : Int) - 1 := fun z => by
    simp only [Builtin.bitNot]
  have hneg : ∀ z : Nat, decide (0 ≤ Builtin.bitNot (z : Int)) = false := fun z => by
    rw [decide_eq_false_iff_not, hn]; omega
  have hnn : ∀ z : Nat, Builtin.bitNot (Builtin.bitNot (z : Int)) = (z : Int) := fun z => by
    rw [hn]; simp only [Builtin.bitNot]; omega
  unfold Builtin.bitOr Builtin.bitAnd
  rw [hneg, hneg]
  simp only [hnn, Int.toNat_natCast]
theorem bitAnd_nat (x y : Nat) : Builtin.bitAnd (x : Int) (y : Int) = ((x &&& y : Nat) : Int) := by
  unfold Builtin.bitAnd
  have h : ∀ z : Nat, decide (0 ≤ (z : Int)) = true := fun z => by simp
  rw [h, h]
  simp only [Int.toNat_natCast]
theorem band_mask (x w : Nat) : Builtin.bitAnd (x : Int) ((2 : Int) ^ w - 1) = ((x % 2 ^ w : Nat) : Int) := by
  have h : ((2 : Int) ^ w - 1) = ((2 ^ w - 1 : Nat) : Int) := by
    have := Nat.two_pow_pos w
    rw [Int.natCast_sub this, Int.natCast_pow]; rfl
  rw [h, bitAnd_nat, Nat.and_two_pow_sub_one_eq_mod]
theorem bor_hi (x y k : Nat) (h : x < 2 ^ k) : Builtin.bitOr ((y : Int) * 2 ^ k) (x : Int) = ((y * 2 ^ k + x : Nat) : Int) := by
  have e : ((y : Int) * 2 ^ k) = ((y * 2 ^ k : Nat) : Int) := by rw [Int.natCast_mul, Int.natCast_pow]; rfl
  rw [e, bitOr_nat, Nat.mul_comm y, ← Nat.two_pow_add_eq_or_of_lt h]
theorem bor_lo (x y k : Nat) (h : x < 2 ^ k) : Builtin.bitOr (x : Int) ((y : Int) * 2 ^ k) = ((x + y * 2 ^ k : Nat) : Int) := by
  have e : ((y : Int) * 2 ^ k) = ((y * 2 ^ k : Nat) : Int) := by rw [Int.natCast_mul, Int.natCast_pow]; rfl
  rw [e, bitOr_nat, Nat.mul_comm y, Nat.or_comm, ← Nat.two_pow_add_eq_or_of_lt h, Nat.add_comm]
theorem fdiv_nat (x b : Nat) : (x : Int).fdiv (b : Int) = ((x / b : Nat) : Int) := by
  cases b with
  | zero => simp
  | succ b => rw [Int.fdiv_eq_ediv_of_nonneg _ (by omega)]; rfl
theorem fdiv_pow (x w : Nat) : (x : Int).fdiv ((2 : Int) ^ w) = ((x / 2 ^ w : Nat) : Int) := by
  have e : ((2 : Int) ^ w) = ((2 ^ w : Nat) : Int) := by rw [Int.natCast_pow]; rfl
  rw [e, fdiv_nat]
theorem fmod_nat (x b : Nat) : (x : Int).fmod (b : Int) = ((x % b : Nat) : Int) := by
  cases b with
  | zero => simp
  | succ b => rw [Int.fmod_eq_emod_of_nonneg _ (by omega)]; rfl

/-! ## limbs -/
noncomputable def val (B : Nat) : List Nat → Nat
  | [] => 0
  | x :: r => x + B * val B r
noncomputable def Ok (B : Nat) (l : List Nat) : Prop := ∀ x ∈ l, x < B
noncomputable def Nrm (l : List Nat) : Prop := l.getLast? ≠ some 0

theorem val_append (B : Nat) (a b : List Nat) : val B (a ++ b) = val B a + B ^ a.length * val B b := by
  induction a with
  | nil => simp [val]
  | cons x r ih =>
    rw [List.cons_append, val, val, ih, List.length_cons, Nat.pow_succ, Nat.mul_add]
    rw [Nat.mul_comm (B ^ r.length) B, Nat.mul_assoc, Nat.add_assoc]
theorem val_take_drop (B : Nat) (l : List Nat) (k : Nat) (hk : k ≤ l.length) : val B l = val B (l.take k) + B ^ k * val B (l.drop k) := by
  have := val_append B (l.take k) (l.drop k)
  rw [List.take_append_drop, List.length_take, Nat.min_eq_left hk] at this
  exact this
theorem val_lt {B : Nat} {l : List Nat} (h : Ok B l) : val B l < B ^ l.length := by
  induction l with
  | nil => simp [val]
  | cons x r ih =>
    have hx := h x (by simp)
    have ihr := ih fun y hy => h y (by simp [hy])
    rw [val, List.length_cons, Nat.pow_succ, Nat.mul_comm _ B]
    have : B * (val B r + 1) ≤ B * B ^ r.length := Nat.mul_le_mul_left _ ihr
    rw [Nat.mul_add] at this
    omega
theorem val_snoc (B : Nat) (a : List Nat) (x : Nat) : val B (a ++ [x]) = val B a + B ^ a.length * x := by
  rw [val_append]; simp [val]
theorem val_zeros (B n : Nat) : val B (List.replicate n 0) = 0 := by
  induction n with
  | zero => rfl
  | succ n ih => rw [List.replicate_succ, val, ih]; simp
theorem ok_append {B : Nat} {a b : List Nat} (ha : Ok B a) (hb : Ok B b) : Ok B (a ++ b) := fun x hx => by
  rcases List.mem_append.mp hx with h | h
  · exact ha x h
  · exact hb x h
theorem ok_one {B x : Nat} (h : x < B) : Ok B [x] := fun y hy => by simp at hy; omega
theorem ok_take {B : Nat} {a : List Nat} (h : Ok B a) (k : Nat) : Ok B (a.take k) := fun x hx => h x (List.mem_of_mem_take hx)
theorem ok_drop {B : Nat} {a : List Nat} (h : Ok B a) (k : Nat) : Ok B (a.drop k) := fun x hx => h x (List.mem_of_mem_drop hx)
theorem ok_set {B : Nat} {a : List Nat} (h : Ok B a) (k x : Nat) (hx : x < B) : Ok B (a.set k x) := fun y hy => by
  rcases List.mem_or_eq_of_mem_set hy with h' | rfl
  · exact h y h'
  · exact hx
theorem ok_get {B : Nat} {a : List Nat} (h : Ok B a) {k : Nat} (hk : k < a.length) : a[k] < B := h _ (List.getElem_mem hk)
theorem ok_zeros {B n : Nat} (h : 0 < B) : Ok B (List.replicate n 0) := fun x hx => by
  rw [List.mem_replicate] at hx; omega
theorem val_set (B : Nat) : ∀ (l : List Nat) (k x : Nat) (hk : k < l.length), val B (l.set k x) + B ^ k * l[k] = val B l + B ^ k * x
  | y :: r, 0, x, _ => by simp [val]; omega
  | y :: r, k + 1, x, hk => by
    simp only [List.set_cons_succ, val, List.getElem_cons_succ]
    have ih := val_set B r k x (by simpa using hk)
    have e := congrArg (B * ·) ih
    simp only [Nat.mul_add] at e
    rw [Nat.pow_succ, Nat.mul_comm (B ^ k) B, Nat.mul_assoc, Nat.mul_assoc]
    omega
theorem take_succ_val (B : Nat) (l : List Nat) (k : Nat) (hk : k < l.length) : val B (l.take (k + 1)) = val B (l.take k) + B ^ k * l[k] := by
  rw [List.take_add_one, List.getElem?_eq_getElem hk, Option.toList_some, val_snoc, List.length_take, Nat.min_eq_left (Nat.le_of_lt hk)]

theorem val_ge {B : Nat} {l : List Nat} (hn : Nrm l) (hl : l ≠ []) : B ^ (l.length - 1) ≤ val B l := by
  obtain ⟨a, x, rfl⟩ : ∃ a x, l = a ++ [x] := ⟨l.dropLast, l.getLast hl, (List.dropLast_concat_getLast hl).symm⟩
  rw [val_snoc]
  unfold Nrm at hn
  rw [List.getLast?_concat] at hn
  have : x ≠ 0 := fun e => hn (by rw [e])
  simp only [List.length_append, List.length_cons, List.length_nil, Nat.add_sub_cancel]
  have h1 : B ^ a.length * 1 ≤ B ^ a.length * x := Nat.mul_le_mul_left _ (by omega)
  omega
theorem nrm_of_ge {B : Nat} {l : List Nat} (ho : Ok B l) (h : l ≠ [] → B ^ (l.length - 1) ≤ val B l) : Nrm l := by
  by_cases hl : l = []
  · subst hl; simp [Nrm]
  · have h := h hl
    obtain ⟨a, x, rfl⟩ : ∃ a x, l = a ++ [x] := ⟨l.dropLast, l.getLast hl, (List.dropLast_concat_getLast hl).symm⟩
    unfold Nrm
    rw [List.getLast?_concat]
    intro e
    have e : x = 0 := by simpa using e
    subst e
    rw [val_snoc] at h
    have := val_lt (l := a) (B := B) fun y hy => ho y (by simp [hy])
    simp at h
    omega

noncomputable def dig (B n : Nat) : List Nat := if h : n = 0 ∨ B < 2 then [] else n % B :: dig B (n / B)
termination_by n
decreasing_by exact Nat.div_lt_self (by omega) (by omega)
theorem dig_zero (B : Nat) : dig B 0 = [] := by unfold dig; simp
theorem dig_pos {B n : Nat} (hB : 2 ≤ B) (hn : 0 < n) : dig B n = n % B :: dig B (n / B) := by
  rw [dig.eq_def]; rw [dif_neg (by omega)]
theorem val_dig {B : Nat} (hB : 2 ≤ B) (n : Nat) : val B (dig B n) = n := by
  induction n using Nat.strongRecOn with
  | ind n ih =>
    rcases Nat.eq_zero_or_pos n with rfl | hn
    · rw [dig_zero]; rfl
    · rw [dig_pos hB hn, val, ih _ (Nat.div_lt_self hn hB)]
      exact Nat.mod_add_div n B
theorem ok_dig {B : Nat} (hB : 2 ≤ B) (n : Nat) : Ok B (dig B n) := by
  induction n using Nat.strongRecOn with
  | ind n ih =>
    rcases Nat.eq_zero_or_pos n with rfl | hn
    · rw [dig_zero]; intro x hx; simp at hx
    · rw [dig_pos hB hn]
      intro x hx
      rcases List.mem_cons.mp hx with rfl | hx
      · exact Nat.mod_lt _ (by omega)
      · exact ih _ (Nat.div_lt_self hn hB) x hx
theorem dig_eq {B : Nat} (hB : 2 ≤ B) : ∀ {l : List Nat}, Ok B l → Nrm l → l = dig B (val B l)
  | [], _, _ => by rw [val, dig_zero]
  | x :: r, ho, hn => by
    have hx := ho x (by simp)
    have hr : Nrm r := by
      intro e
      apply hn
      cases r with
      | nil => simp at e
      | cons y r => rw [List.getLast?_cons_cons]; exact e
    have ih := dig_eq hB (fun y hy => ho y (by simp [hy])) hr
    have hp : 0 < val B (x :: r) := by
      have := val_ge (B := B) hn (by simp)
      have h2 : 0 < B ^ ((x :: r).length - 1) := Nat.pow_pos (by omega)
      omega
    rw [dig_pos hB hp]
    rw [val, Nat.add_mul_mod_self_left, Nat.mod_eq_of_lt hx, Nat.add_mul_div_left _ _ (by omega : 0 < B), Nat.div_eq_of_lt hx, Nat.zero_add, ← ih]
theorem nrm_dig {B : Nat} (hB : 2 ≤ B) (n : Nat) : Nrm (dig B n) := by
  induction n using Nat.strongRecOn with
  | ind n ih =>
    rcases Nat.eq_zero_or_pos n with rfl | hn
    · rw [dig_zero]; simp [Nrm]
    · rw [dig_pos hB hn]
      have ih := ih _ (Nat.div_lt_self hn hB)
      cases e : dig B (n / B) with
      | nil =>
        have h0 : n / B = 0 := by rw [← val_dig hB (n / B), e]; rfl
        have : n % B = n := by
          have := Nat.mod_add_div n B
          rw [h0] at this; omega
        unfold Nrm
        simp [this]; omega
      | cons y r =>
        rw [e] at ih
        unfold Nrm at ih ⊢
        rw [List.getLast?_cons_cons]; exact ih
theorem dig_len {B : Nat} (hB : 2 ≤ B) : ∀ {k n : Nat}, n < B ^ k → (dig B n).length ≤ k
  | k, 0, _ => by rw [dig_zero]; exact Nat.zero_le _
  | 0, n + 1, h => by simp at h
  | k + 1, n + 1, h => by
    rw [dig_pos hB (by omega), List.length_cons]
    have : (n + 1) / B < B ^ k := by
      rw [Nat.div_lt_iff_lt_mul (by omega)]
      rw [Nat.pow_succ] at h; exact h
    have := dig_len hB this
    omega
theorem dig_len0 {B : Nat} (hB : 2 ≤ B) (n : Nat) : (dig B n).length = 0 ↔ n = 0 := by
  constructor
  · intro h
    have : dig B n = [] := List.length_eq_zero_iff.mp h
    rw [← val_dig hB n, this]; rfl
  · rintro rfl; rw [dig_zero]; rfl
theorem dig_lt_len {B : Nat} (hB : 2 ≤ B) (n : Nat) : n < B ^ (dig B n).length := by
  have := val_lt (ok_dig hB n)
  rwa [val_dig hB] at this
theorem dig_ge_len {B : Nat} (hB : 2 ≤ B) {n : Nat} (hn : 0 < n) : B ^ ((dig B n).length - 1) ≤ n := by
  have := val_ge (B := B) (nrm_dig hB n) (by rw [Ne, ← List.length_eq_zero_iff, dig_len0 hB]; omega)
  rwa [val_dig hB] at this
theorem dig_small {B x : Nat} (hB : 2 ≤ B) (h0 : 0 < x) (h : x < B) : dig B x = [x] := by
  rw [dig_pos hB h0, Nat.mod_eq_of_lt h, Nat.div_eq_of_lt h, dig_zero]
end Mine

set_option linter.unusedVariables false
set_option linter.unusedSimpArgs false
set_option autoImplicit false
namespace Mine
open PySem

abbrev nl (l : List Nat) : List V := l.map fun (n : Nat) => V.int (n : Int)
theorem nl_len (l : List Nat) : (nl l).length = l.length := by simp
theorem nl_get (l : List Nat) (k : Nat) (hk : k < l.length) : (nl l)[k]? = some (V.int (l[k] : Nat)) := by simp [hk]

noncomputable def Ext (h h' : Hp) : Prop := ∀ (i : Nat) (o : Ob), h[i]? = some o → h'[i]? = some o
theorem Ext.refl (h : Hp) : Ext h h := fun _ _ e => e
theorem Ext.trans {a b c : Hp} (x : Ext a b) (y : Ext b c) : Ext a c := fun i o e => y i o (x i o e)
theorem lt_of_get {h : Hp} {i : Nat} {o : Ob} (e : h[i]? = some o) : i < h.length := (List.getElem?_eq_some_iff.mp e).1
theorem push_get {h : Hp} {i : Nat} {o o' : Ob} (e : h[i]? = some o) : (h ++ [o'])[i]? = some o := by
  rw [List.getElem?_append_left (lt_of_get e)]; exact e
theorem push_last (h : Hp) (o : Ob) : (h ++ [o])[h.length]? = some o := by simp
theorem Ext.push (h : Hp) (o : Ob) : Ext h (h ++ [o]) := fun _ _ e => push_get e
theorem Ext.len {h h' : Hp} (x : Ext h h') : h.length ≤ h'.length := by
  cases e : h.length with
  | zero => exact Nat.zero_le _
  | succ n =>
    have := x n h[n] (by simp [e])
    exact lt_of_get this
theorem set_self {h : Hp} {k : Nat} {o o' : Ob} (e : h[k]? = some o') : (h.set k o)[k]? = some o := by
  rw [List.getElem?_set_self (lt_of_get e)]
theorem set_ne {h : Hp} {k i : Nat} {o o' : Ob} (e : h[i]? = some o') (n : k ≠ i) : (h.set k o)[i]? = some o' := by
  rw [List.getElem?_set_ne n]; exact e
theorem Ext.set {h h' : Hp} {k : Nat} {o : Ob} (x : Ext h h') (hk : h.length ≤ k) : Ext h (h'.set k o) := fun i o' e =>
  set_ne (x i o' e) (Nat.ne_of_gt (Nat.lt_of_lt_of_le (lt_of_get e) hk))
theorem Ext.push' {h h' : Hp} (x : Ext h h') (o : Ob) : Ext h (h' ++ [o]) := x.trans (.push _ _)

theorem forP_inv {α : Type} {chk : Hp → Prop} {f : α → Lo → Hp → KR → Prop} {K : KR} (I : Nat → Lo → Hp → Prop) : ∀ (l : List α)
    (step : ∀ (k : Nat) (a : α) (lo : Lo) (h : Hp) (K' : KR), l[k]? = some a → I k lo h → (∀ lo h, I (k + 1) lo h → K' .next lo h) → (∀ u lo h, K (.ret u) lo h → K' (.ret u) lo h) → f a lo h K')
    (hchk : ∀ k lo h, I k lo h → chk h) (fin : ∀ lo h, I l.length lo h → K .next lo h) (lo : Lo) (h : Hp) (h0 : I 0 lo h), forP chk f l lo h K := by
  intro l
  induction l generalizing I with
  | nil => intro step hchk fin lo h h0; exact ⟨hchk 0 lo h h0, fin lo h h0⟩
  | cons a r ih =>
    intro step hchk fin lo h h0
    refine ⟨hchk 0 lo h h0, step 0 a lo h _ rfl h0 (fun lo h h1 => ?_) fun u lo h q => q⟩
    exact ih (fun k => I (k + 1)) (fun k b lo h K' e i n rr => step (k + 1) b lo h K' (by simpa using e) i n rr) (fun k lo h i => hchk (k + 1) lo h i) (fun lo h i => fin lo h i) lo h h1
theorem rangeL_at (a st : Int) : ∀ (n k : Nat) (x : Int), (rangeL a st n)[k]? = some x → k < n ∧ x = a + k * st
  | 0, k, x, h => by simp [rangeL] at h
  | n + 1, 0, x, h => by simp [rangeL] at h; subst h; exact ⟨by omega, by simp⟩
  | n + 1, k + 1, x, h => by
    simp only [rangeL, List.getElem?_cons_succ] at h
    obtain ⟨h1, h2⟩ := rangeL_at (a + st) st n k x h
    refine ⟨by omega, ?_⟩
    rw [h2, Int.natCast_add, Int.add_mul]; omega
theorem rangeL_length (a st : Int) : ∀ n, (rangeL a st n).length = n
  | 0 => rfl
  | n + 1 => by simp [rangeL, rangeL_length (a + st) st n]
/-- for x in range(a, a + n) -/
theorem for_up {f : Int → Lo → Hp → KR → Prop} {K : KR} {lo : Lo} {h : Hp} (I : Nat → Lo → Hp → Prop) {a b : Int} (n : Nat) (hn : rangeN a b 1 = n)
    (h0 : I 0 lo h)
    (step : ∀ (k : Nat) (lo : Lo) (h : Hp) (K' : KR), k < n → I k lo h → (∀ lo h, I (k + 1) lo h → K' .next lo h) → (∀ u lo h, K (.ret u) lo h → K' (.ret u) lo h) → f (a + k) lo h K')
    (fin : ∀ lo h, I n lo h → K .next lo h) : forP (fun _ => True) f (rangeL a 1 (rangeN a b 1)) lo h K := by
  rw [hn]
  refine forP_inv I _ (fun k x lo h K' e i nx rr => ?_) (fun _ _ _ _ => trivial) (fun lo h i => fin lo h (by rw [rangeL_length] at i; exact i)) lo h h0
  obtain ⟨h1, rfl⟩ := rangeL_at a 1 n k x e
  rw [Int.mul_one]
  exact step k lo h K' h1 i nx rr
/-- for x in range(n - 1, -1, -1) -/
theorem for_down {f : Int → Lo → Hp → KR → Prop} {K : KR} {lo : Lo} {h : Hp} (I : Nat → Lo → Hp → Prop) {a b : Int} (n : Nat) (hn : a = (n : Int) - 1) (hb : b = -1)
    (h0 : I 0 lo h)
    (step : ∀ (k : Nat) (lo : Lo) (h : Hp) (K' : KR), k < n → I k lo h → (∀ lo h, I (k + 1) lo h → K' .next lo h) → (∀ u lo h, K (.ret u) lo h → K' (.ret u) lo h) → f ((n - 1 - k : Nat) : Int) lo h K')
    (fin : ∀ lo h, I n lo h → K .next lo h) : forP (fun _ => True) f (rangeL a (-1) (rangeN a b (-1))) lo h K := by
  have hr : rangeN a b (-1) = n := by unfold rangeN; rw [if_neg (by decide)]; omega
  rw [hr]
  refine forP_inv I _ (fun k x lo h K' e i nx rr => ?_) (fun _ _ _ _ => trivial) (fun lo h i => fin lo h (by rw [rangeL_length] at i; exact i)) lo h h0
  obtain ⟨h1, h2⟩ := rangeL_at a (-1) n k x e
  have : x = ((n - 1 - k : Nat) : Int) := by omega
  rw [this]
  exact step k lo h K' h1 i nx rr
theorem while_inv {test : Lo → Hp → (Bool → Hp → Prop) → Prop} {body : Lo → Hp → KR → Prop} {K : KR} (I : Nat → Lo → Hp → Prop)
    (step : ∀ m lo h, I m lo h → ∃ b, (∀ K1 : Bool → Hp → Prop, K1 b h → test lo h K1) ∧
      (b = true → ∀ K' : KR, (∀ m' lo' h', m' < m → I m' lo' h' → K' .next lo' h') → body lo h K') ∧ (b = false → K .next lo h)) :
    ∀ m lo h, I m lo h → ∃ n, whileP test body n lo h K := by
  have main : ∀ m lo h n, m < n → I m lo h → whileP test body n lo h K := by
    intro m
    induction m using Nat.strongRecOn with
    | ind m ih =>
      intro lo h n hn hI
      obtain ⟨b, ht, hb, hf⟩ := step m lo h hI
      cases n with
      | zero => omega
      | succ n =>
        refine ht _ ?_
        cases b with
        | true => exact hb rfl _ fun m' lo' h' hm hI' => ih m' hm lo' h' n (by omega) hI'
        | false => exact hf rfl
  exact fun m lo h hI => ⟨m + 1, main m lo h (m + 1) (by omega) hI⟩

noncomputable def lim : Nat := 2 ^ 200
theorem dig_lim {B n : Nat} (hB : 2 ≤ B) (h : n < lim) : (dig B n).length ≤ 200 :=
  dig_len hB (Nat.lt_of_lt_of_le h (Nat.pow_le_pow_left hB 200))

theorem ev_compare {d i j B a b : Nat} {h : Hp} {Q : KV} (hB : 2 ≤ B) (ha : h[i]? = some (.L (nl (dig B a)))) (hb : h[j]? = some (.L (nl (dig B b)))) (la : a < lim) (lb : b < lim)
    (K : ∀ c : Int, (c < 0 ↔ a < b) → Q (.int c) h) : callD prg (d + 1) 72 [.ref i, .ref j] h Q := by
  have l1 := dig_lim hB la
  have l2 := dig_lim hB lb
  have p1 : prg 72 = some (2, p_compare) := rfl
  simp only [callD_succ, getP_some, endP_ret, endP_next, p1, p_compare, qSs0, qSs1, nextP_next, nextP_ret, qS0, qS1, qS2, qS3, qS4, qS5, qS6, qS7, qS8, qS9, qS10, qS11, qS12, tupP_r, getT_T, cond_true, cond_false, qE0, qE1, qE2, qE3, qE4, qE5, qE6, qE7, qE8, qE9, qE10, qE11, qE12, qE13, qE14, qE15, qE16, qE17, qE18, qE19, qE20, qE21, qE22, qE23, qE24, qE25, qE26, List.getElem?_cons_zero, List.getElem?_cons_succ, listP_r, getL_L, ha, hb, cQ, cN, cL, cM, cG, cH, cX, cY, cR, boolP_b, intP_i, List.length_cons, List.length_nil, true_and, nl_len]
  by_cases hl : (dig B a).length = (dig B b).length
  · have e : ((((dig B a).length : Nat) : Int) != ((dig B b).length : Nat)) = false := by simp [hl]
    rw [e]
    simp only [Bool.false_eq_true, if_false, cond_false, qSs0, qSs1, nextP_next, nextP_ret, qS0, qS1, qS2, qS3, qS4, qS5, qS6, qS7, qS8, qS9, qS10, qS11, qS12, tupP_r, getT_T, getP_some, cond_true, qE0, qE1, qE2, qE3, qE4, qE5, qE6, qE7, qE8, qE9, qE10, qE11, qE12, qE13, qE14, qE15, qE16, qE17, qE18, qE19, qE20, qE21, qE22, qE23, qE24, qE25, qE26, List.getElem?_cons_zero, listP_r, getL_L, ha, hb, bA, bC, bS, bM, bR, rep1_one, bD, bO, bL, bH, bN, bU, bP, intP_i, nl_len, endP_ret, endP_next]
    refine ⟨⟨by omega, by decide, .inr (by decide)⟩, ?_⟩
    refine for_down (fun k lo h' => lo 0 = some (.ref i) ∧ lo 1 = some (.ref j) ∧ h' = h ∧ (dig B a).drop ((dig B a).length - k) = (dig B b).drop ((dig B a).length - k)) (dig B a).length rfl rfl ?_ ?_ ?_
    · refine ⟨rfl, rfl, rfl, ?_⟩
      rw [Nat.sub_zero, List.drop_length, hl, List.drop_length]
    · intro k lo h' K' hk hI nx rr
      obtain ⟨e0, e1, rfl, hd⟩ := hI
      have hi1 : (dig B a).length - 1 - k < (dig B a).length := by omega
      have hi2 : (dig B a).length - 1 - k < (dig B b).length := by omega
      generalize hidx : (dig B a).length - 1 - k = idx at hi1 hi2
      have hd' : (dig B a).drop (idx + 1) = (dig B b).drop (idx + 1) := by
        have : (dig B a).length - k = idx + 1 := by omega
        rw [this] at hd; exact hd
      have va := val_take_drop B (dig B a) idx (by omega)
      have vb := val_take_drop B (dig B b) idx (by omega)
      rw [List.drop_eq_getElem_cons hi1, val, val_dig hB] at va
      rw [List.drop_eq_getElem_cons hi2, val, val_dig hB, ← hd'] at vb
      have ta := val_lt (ok_take (ok_dig hB a) idx)
      have tb := val_lt (ok_take (ok_dig hB b) idx)
      rw [List.length_take, Nat.min_eq_left (by omega)] at ta tb
      have ix1 : ∀ (KK : V → Prop), KK (.int ((dig B a)[idx] : Nat)) → ixP (.ref i) (.int (idx : Int)) h' KK := by
        intro KK hK
        simp only [iX, ixO_L, ixO_T, getP_some, ha, nl_len, getL_L, nextP_next, nextP_ret, endP_ret, endP_next, cond_true, cond_false]
        refine ⟨⟨by omega, by omega⟩, ?_⟩
        rw [if_neg (by omega), Int.toNat_natCast, nl_get _ _ hi1]; exact hK
      have ix2 : ∀ (KK : V → Prop), KK (.int ((dig B b)[idx] : Nat)) → ixP (.ref j) (.int (idx : Int)) h' KK := by
        intro KK hK
        simp only [iX, ixO_L, ixO_T, getP_some, hb, nl_len, getL_L, nextP_next, nextP_ret, endP_ret, endP_next, cond_true, cond_false]
        refine ⟨⟨by omega, by omega⟩, ?_⟩
        rw [if_neg (by omega), Int.toNat_natCast, nl_get _ _ hi2]; exact hK
      simp only [qSs0, qSs1, nextP_next, nextP_ret, qS0, qS1, qS2, qS3, qS4, qS5, qS6, qS7, qS8, qS9, qS10, qS11, qS12, tupP_r, getT_T, getP_some, cond_true, cond_false, qE0, qE1, qE2, qE3, qE4, qE5, qE6, qE7, qE8, qE9, qE10, qE11, qE12, qE13, qE14, qE15, qE16, qE17, qE18, qE19, qE20, qE21, qE22, qE23, qE24, qE25, qE26, upd, Nat.reduceBEq, e0, e1, if_true, if_false, getL_L, endP_ret, endP_next]
      refine ix1 _ (ix2 _ ?_)
      simp only [cQ, cN, cL, cM, cG, cH, cX, cY, cR, boolP_b, getP_some, getL_L, nextP_next, nextP_ret, endP_ret, endP_next, cond_true, cond_false]
      by_cases hx : (dig B a)[idx] = (dig B b)[idx]
      · have e : ((((dig B a)[idx] : Nat) : Int) != ((dig B b)[idx] : Nat)) = false := by simp [hx]
        rw [e]
        simp only [Bool.false_eq_true, if_false, cond_false, qSs0, qSs1, nextP_next, nextP_ret, getP_some, getL_L, endP_ret, endP_next, cond_true]
        refine nx _ _ ⟨e0, e1, rfl, ?_⟩
        have : (dig B a).length - (k + 1) = idx := by omega
        rw [this, List.drop_eq_getElem_cons hi1, List.drop_eq_getElem_cons hi2, hx, hd']
      · have e : ((((dig B a)[idx] : Nat) : Int) != ((dig B b)[idx] : Nat)) = true := by
          rw [bne_iff_ne]; omega
        rw [e]
        simp only [if_true, cond_true, qSs0, qSs1, nextP_next, nextP_ret, qS0, qS1, qS2, qS3, qS4, qS5, qS6, qS7, qS8, qS9, qS10, qS11, qS12, tupP_r, getT_T, getP_some, cond_false, qE0, qE1, qE2, qE3, qE4, qE5, qE6, qE7, qE8, qE9, qE10, qE11, qE12, qE13, qE14, qE15, qE16, qE17, qE18, qE19, qE20, qE21, qE22, qE23, qE24, qE25, qE26, upd, Nat.reduceBEq, e0, e1, if_false, getL_L, endP_ret, endP_next]
        refine ix1 _ (ix2 _ ?_)
        simp only [cQ, cN, cL, cM, cG, cH, cX, cY, cR, boolP_b, getP_some, getL_L, nextP_next, nextP_ret, endP_ret, endP_next, cond_true, cond_false]
        have hkey : (dig B a)[idx] < (dig B b)[idx] ↔ a < b := by
          generalize hx1 : (dig B a)[idx] = x1 at *
          generalize hx2 : (dig B b)[idx] = x2 at *
          generalize val B ((dig B a).drop (idx + 1)) = tl at *
          have m : ∀ x y : Nat, x < y → B ^ idx * (x + B * tl) + B ^ idx ≤ B ^ idx * (y + B * tl) := by
            intro x y hxy
            have := Nat.mul_le_mul_left (B ^ idx) (show x + B * tl + 1 ≤ y + B * tl by omega)
            rwa [Nat.mul_add _ _ 1, Nat.mul_one] at this
          rcases Nat.lt_or_gt_of_ne hx with h1 | h1
          · have := m _ _ h1; constructor
            · intro _; omega
            · intro _; exact h1
          · have := m _ _ h1; constructor
            · intro h2; omega
            · intro h2; omega
        by_cases hlt : (dig B a)[idx] < (dig B b)[idx]
        · rw [decide_eq_true (by omega)]
          simp only [if_true, cond_true, qE0, qE1, qE2, qE3, qE4, qE5, qE6, qE7, qE8, qE9, qE10, qE11, qE12, qE13, qE14, qE15, qE16, qE17, qE18, qE19, qE20, qE21, qE22, qE23, qE24, qE25, qE26, getP_some, intP_i, getL_L, nextP_next, nextP_ret, endP_ret, endP_next, cond_false]
          exact rr _ _ _ (K _ ⟨fun _ => hkey.mp hlt, fun _ => by decide⟩)
        · rw [decide_eq_false (by omega)]
          simp only [Bool.false_eq_true, if_false, cond_false, qE0, qE1, qE2, qE3, qE4, qE5, qE6, qE7, qE8, qE9, qE10, qE11, qE12, qE13, qE14, qE15, qE16, qE17, qE18, qE19, qE20, qE21, qE22, qE23, qE24, qE25, qE26, getP_some, intP_i, getL_L, nextP_next, nextP_ret, endP_ret, endP_next, cond_true]
          exact rr _ _ _ (K _ ⟨fun h => by omega, fun h => absurd (hkey.mpr h) hlt⟩)
    · intro lo h' hI
      obtain ⟨_, _, rfl, hd⟩ := hI
      simp only [qSs0, qSs1, nextP_next, nextP_ret, qS0, qS1, qS2, qS3, qS4, qS5, qS6, qS7, qS8, qS9, qS10, qS11, qS12, tupP_r, getT_T, getP_some, cond_true, cond_false, qE0, qE1, qE2, qE3, qE4, qE5, qE6, qE7, qE8, qE9, qE10, qE11, qE12, qE13, qE14, qE15, qE16, qE17, qE18, qE19, qE20, qE21, qE22, qE23, qE24, qE25, qE26, getL_L, endP_ret, endP_next]
      refine K 0 ⟨fun h => by omega, fun h => ?_⟩
      rw [Nat.sub_self, List.drop_zero, List.drop_zero] at hd
      have := congrArg (val B) hd
      rw [val_dig hB, val_dig hB] at this
      omega
  · have e : ((((dig B a).length : Nat) : Int) != ((dig B b).length : Nat)) = true := by
      rw [bne_iff_ne]; omega
    rw [e]
    simp only [if_true, cond_true, qSs0, qSs1, nextP_next, nextP_ret, qS0, qS1, qS2, qS3, qS4, qS5, qS6, qS7, qS8, qS9, qS10, qS11, qS12, tupP_r, getT_T, getP_some, cond_false, qE0, qE1, qE2, qE3, qE4, qE5, qE6, qE7, qE8, qE9, qE10, qE11, qE12, qE13, qE14, qE15, qE16, qE17, qE18, qE19, qE20, qE21, qE22, qE23, qE24, qE25, qE26, List.getElem?_cons_zero, listP_r, getL_L, ha, hb, bA, bC, bS, bM, bR, rep1_one, bD, bO, bL, bH, bN, bU, bP, intP_i, nl_len, cQ, cN, cL, cM, cG, cH, cX, cY, cR, boolP_b, List.getElem?_cons_succ, endP_ret, endP_next]
    have key : ∀ x y : Nat, (dig B x).length < (dig B y).length → x < y := by
      intro x y hxy
      have hy : 0 < y := by
        rcases Nat.eq_zero_or_pos y with rfl | h
        · rw [dig_zero] at hxy; simp at hxy
        · exact h
      have h1 := dig_lt_len hB x
      have h2 := dig_ge_len hB hy
      have h3 : B ^ (dig B x).length ≤ B ^ ((dig B y).length - 1) := Nat.pow_le_pow_right (by omega) (by omega)
      omega
    by_cases hlt : (dig B a).length < (dig B b).length
    · rw [decide_eq_true (by omega)]
      simp only [if_true, cond_true, qE0, qE1, qE2, qE3, qE4, qE5, qE6, qE7, qE8, qE9, qE10, qE11, qE12, qE13, qE14, qE15, qE16, qE17, qE18, qE19, qE20, qE21, qE22, qE23, qE24, qE25, qE26, getP_some, intP_i, getL_L, nextP_next, nextP_ret, endP_ret, endP_next, cond_false]
      exact K _ ⟨fun _ => key _ _ hlt, fun _ => by decide⟩
    · rw [decide_eq_false (by omega)]
      simp only [Bool.false_eq_true, if_false, cond_false, qE0, qE1, qE2, qE3, qE4, qE5, qE6, qE7, qE8, qE9, qE10, qE11, qE12, qE13, qE14, qE15, qE16, qE17, qE18, qE19, qE20, qE21, qE22, qE23, qE24, qE25, qE26, getP_some, getL_L, nextP_next, nextP_ret, endP_ret, endP_next, cond_true]
      have := key b a (by omega)
      exact K 1 ⟨fun h => by omega, fun h => by omega⟩
end Mine

set_option linter.unusedVariables false
set_option linter.unusedSimpArgs false
set_option autoImplicit false
namespace Mine
open PySem

structure WW (w : Nat) : Prop where
  lo : 1 ≤ w
  hi : w ≤ 8
theorem WW.two {w : Nat} (hw : WW w) : 2 ≤ 2 ^ w := Nat.pow_le_pow_right (n := 2) (by decide) hw.lo
theorem WW.top {w : Nat} (hw : WW w) : 2 ^ w ≤ 256 := Nat.pow_le_pow_right (n := 2) (by decide) hw.hi
theorem WW.shl {w : Nat} (hw : WW w) : (0 : Int) ≤ (w : Int) ∧ (w : Int) ≤ 1000 := ⟨by omega, by have := hw.hi; omega⟩

theorem ix_nl {i idx : Nat} {x : Int} {l : List Nat} {h : Hp} {KK : V → Prop} (hl : h[i]? = some (.L (nl l))) (hx : x = (idx : Int)) (hi : idx < l.length) (K : KK (.int (l[idx] : Nat))) : ixP (.ref i) (.int x) h KK := by
  subst hx
  simp only [iX, ixO_L, ixO_T, getP_some, hl, nl_len, getL_L, nextP_next, nextP_ret, endP_ret, endP_next, cond_true, cond_false]
  refine ⟨⟨by omega, by omega⟩, ?_⟩
  rw [if_neg (by omega), Int.toNat_natCast, nl_get _ _ hi]; exact K
theorem set_nl {i idx : Nat} {x : Int} {y : Nat} {l : List Nat} {h : Hp} {KK : Hp → Prop} (hl : h[i]? = some (.L (nl l))) (h5 : ro ≤ i) (hx : x = (idx : Int)) (hi : idx < l.length) (K : KK (h.set i (.L (nl (l.set idx y))))) : setP (.ref i) (.int x) (.int (y : Int)) h KK := by
  subst hx
  simp only [sP, getL_L, hl, nl_len, getP_some, nextP_next, nextP_ret, endP_ret, endP_next, cond_true, cond_false]
  refine ⟨⟨h5, by omega, by omega⟩, ?_⟩
  rw [Int.toNat_natCast]
  have e : (nl l).set idx (.int (y : Int)) = nl (l.set idx y) := by simp [List.map_set]
  rw [e]; exact K
theorem app_nl {i : Nat} {y : Nat} {l : List Nat} {h : Hp} {KK : Hp → Prop} (hl : h[i]? = some (.L (nl l))) (h5 : ro ≤ i) (hi : l.length < big) (K : KK (h.set i (.L (nl (l ++ [y]))))) : appP (.ref i) (.int (y : Int)) h KK := by
  simp only [aP, getL_L, hl, nl_len, getP_some, nextP_next, nextP_ret, endP_ret, endP_next, cond_true, cond_false]
  refine ⟨⟨h5, hi⟩, ?_⟩
  have e : nl l ++ [.int (y : Int)] = nl (l ++ [y]) := by simp
  rw [e]; exact K
theorem carry_step (P B t : Nat) : P * (t % B) + P * B * (t / B) = P * t := by
  rw [Nat.mul_assoc, ← Nat.mul_add, Nat.mod_add_div]

theorem ev_normal {d i B : Nat} {l : List Nat} {h : Hp} {Q : KV} (hB : 2 ≤ B) (ho : Ok B l) (hl : h[i]? = some (.L (nl l))) (K : Q (.ref h.length) (h ++ [.L (nl (dig B (val B l)))])) : callD prg (d + 1) 65 [.ref i] h Q := by
  have p1 : prg 65 = some (1, p_normal) := rfl
  simp only [callD_succ, getP_some, endP_ret, endP_next, p1, p_normal, qSs0, qSs1, nextP_next, nextP_ret, qS0, qS1, qS2, qS3, qS4, qS5, qS6, qS7, qS8, qS9, qS10, qS11, qS12, tupP_r, getT_T, cond_true, cond_false, qE0, qE1, qE2, qE3, qE4, qE5, qE6, qE7, qE8, qE9, qE10, qE11, qE12, qE13, qE14, qE15, qE16, qE17, qE18, qE19, qE20, qE21, qE22, qE23, qE24, qE25, qE26, qT0, qT1, List.getElem?_cons_zero, listP_r, getL_L, hl, List.length_cons, List.length_nil, true_and, nl_len]
  refine while_inv (fun m lo h' => lo 0 = some (.ref i) ∧ lo 1 = some (.int (m : Int)) ∧ h' = h ∧ m ≤ l.length ∧ val B (l.take m) = val B l) ?_ l.length _ _ ⟨rfl, rfl, rfl, Nat.le_refl _, by simp⟩
  intro m lo h' hI
  obtain ⟨e0, e1, rfl, hm, hv⟩ := hI
  have fin : ∀ (hn : m = 0 ∨ ∃ hm' : m - 1 < l.length, l[m - 1] ≠ 0), (getP (lo 0) fun v => getP (lo 1) fun u => listP v h' fun xs => intP u fun k => 0 ≤ k ∧ Q (.ref h'.length) (h' ++ [.L (xs.take k.toNat)])) := by
    intro hn
    simp only [e0, e1, listP_r, getL_L, hl, intP_i, getP_some, nextP_next, nextP_ret, endP_ret, endP_next, cond_true, cond_false]
    refine ⟨by omega, ?_⟩
    have e : (nl l).take (Int.toNat (m : Int)) = nl (dig B (val B l)) := by
      rw [Int.toNat_natCast, ← List.map_take, ← hv]
      have hN : Nrm (l.take m) := by
        rcases hn with rfl | ⟨hm', hne⟩
        · simp [Nrm]
        · unfold Nrm
          rw [List.getLast?_take]
          by_cases hm0 : m = 0
          · simp [hm0]
          · rw [if_neg hm0, List.getElem?_eq_getElem hm']
            simp; exact hne
      rw [← dig_eq hB (ok_take ho m) hN]
    rw [e]; exact K
  rcases Nat.eq_zero_or_pos m with rfl | hpos
  · refine ⟨false, fun K1 k => ?_, fun e => (by cases e), fun _ => ?_⟩
    · simp only [e1, cQ, cN, cL, cM, cG, cH, cX, cY, cR, boolP_b, getP_some, getL_L, nextP_next, nextP_ret, endP_ret, endP_next, cond_true, cond_false]
      rw [decide_eq_false (by omega)]
      simpa using k
    · exact fin (.inl rfl)
  · have hm' : m - 1 < l.length := by omega
    have test : ∀ (KK : V → Prop), KK (.int (l[m - 1] : Nat)) → ixP (.ref i) (.int ((m : Int) - 1)) h' KK := fun KK k => ix_nl hl (by omega) hm' k
    by_cases hz : l[m - 1] = 0
    · refine ⟨true, fun K1 k => ?_, fun _ K' nx => ?_, fun e => by cases e⟩
      · simp only [e1, cQ, cN, cL, cM, cG, cH, cX, cY, cR, boolP_b, getP_some, getL_L, nextP_next, nextP_ret, endP_ret, endP_next, cond_true, cond_false]
        rw [decide_eq_true (by omega)]
        simp only [if_true, cond_true, e0, bA, bC, bS, bM, bR, rep1_one, bD, bO, bL, bH, bN, bU, bP, getL_L, getP_some, nextP_next, nextP_ret, endP_ret, endP_next, cond_false]
        refine test _ ?_
        simp only [cQ, cN, cL, cM, cG, cH, cX, cY, cR, boolP_b, hz, getP_some, getL_L, nextP_next, nextP_ret, endP_ret, endP_next, cond_true, cond_false]
        exact k
      · simp only [qSs0, qSs1, nextP_next, nextP_ret, qS0, qS1, qS2, qS3, qS4, qS5, qS6, qS7, qS8, qS9, qS10, qS11, qS12, tupP_r, getT_T, getP_some, cond_true, cond_false, qE0, qE1, qE2, qE3, qE4, qE5, qE6, qE7, qE8, qE9, qE10, qE11, qE12, qE13, qE14, qE15, qE16, qE17, qE18, qE19, qE20, qE21, qE22, qE23, qE24, qE25, qE26, e1, bA, bC, bS, bM, bR, rep1_one, bD, bO, bL, bH, bN, bU, bP, getL_L, endP_ret, endP_next]
        refine ⟨⟨_, rfl⟩, nx (m - 1) _ _ (by omega) ⟨e0, by simp [upd]; omega, rfl, by omega, ?_⟩⟩
        have := take_succ_val B l (m - 1) hm'
        rw [hz, Nat.mul_zero, Nat.add_zero, Nat.sub_add_cancel hpos] at this
        omega
    · refine ⟨false, fun K1 k => ?_, fun e => (by cases e), fun _ => fin (.inr ⟨hm', hz⟩)⟩
      simp only [e1, cQ, cN, cL, cM, cG, cH, cX, cY, cR, boolP_b, getP_some, getL_L, nextP_next, nextP_ret, endP_ret, endP_next, cond_true, cond_false]
      rw [decide_eq_true (by omega)]
      simp only [if_true, cond_true, e0, bA, bC, bS, bM, bR, rep1_one, bD, bO, bL, bH, bN, bU, bP, getL_L, getP_some, nextP_next, nextP_ret, endP_ret, endP_next, cond_false]
      refine test _ ?_
      simp only [cQ, cN, cL, cM, cG, cH, cX, cY, cR, boolP_b, getP_some, getL_L, nextP_next, nextP_ret, endP_ret, endP_next, cond_true, cond_false]
      have : (((l[m - 1] : Nat) : Int) == 0) = false := by simp [hz]
      rw [this]; exact k

/-- the second part of add -/
theorem add_core {d i j w a b : Nat} {h : Hp} {Q : KV} {lo : Lo} (hw : WW w) (h5 : ro ≤ h.length) (ha : h[i]? = some (.L (nl (dig (2 ^ w) a)))) (hb : h[j]? = some (.L (nl (dig (2 ^ w) b)))) (la : a < lim) (lb : b < lim)
    (e0 : lo 0 = some (.ref i)) (e1 : lo 1 = some (.ref j)) (e2 : lo 2 = some (.int (w : Int))) (hl : (dig (2 ^ w) b).length ≤ (dig (2 ^ w) a).length)
    (K : ∀ h' k, Ext h h' → h.length ≤ k → h'[k]? = some (.L (nl (dig (2 ^ w) (a + b)))) → Q (.ref k) h') :
    wpSs (callD prg d) (p_add.drop 1) lo h fun r _ h => endP r h Q := by
  have hB := hw.two
  have hT := hw.top
  have l1 := dig_lim hB la
  have l2 := dig_lim hB lb
  have b1 : (200 : Nat) < big := by decide
  simp only [p_add, List.drop_succ_cons, List.drop_zero, qSs0, qSs1, nextP_next, nextP_ret, qS0, qS1, qS2, qS3, qS4, qS5, qS6, qS7, qS8, qS9, qS10, qS11, qS12, tupP_r, getT_T, getP_some, cond_true, cond_false, qEs0, qEs1, qE0, qE1, qE2, qE3, qE4, qE5, qE6, qE7, qE8, qE9, qE10, qE11, qE12, qE13, qE14, qE15, qE16, qE17, qE18, qE19, qE20, qE21, qE22, qE23, qE24, qE25, qE26, qTs0, qTs1, qT0, qT1, e0, e1, e2, bA, bC, bS, bM, bR, rep1_one, bD, bO, bL, bH, bN, bU, bP, getL_L, upd, Nat.reduceBEq, if_true, if_false, reduceCtorEq, Int.one_mul, Int.toNat_natCast, endP_ret, endP_next]
  refine ⟨⟨hw.shl.1, hw.shl.2, by decide⟩, ?_⟩
  simp only [upd, Nat.reduceBEq, cond_true, cond_false, e0, e1, e2, if_true, if_false, reduceCtorEq, listP_r, getL_L, push_get ha, push_get hb, intP_i, nl_len, getP_some, nextP_next, nextP_ret, endP_ret, endP_next]
  simp (config := { decide := true }) only [if_true, cond_true, if_false, cond_false, e0, e1, e2, listP_r, getL_L, push_get ha, push_get hb, intP_i, nl_len, getP_some, nextP_next, nextP_ret, endP_ret, endP_next]
  generalize hA : dig (2 ^ w) a = A at *
  generalize hBb : dig (2 ^ w) b = Bb at *
  have vA : val (2 ^ w) A = a := by rw [← hA, val_dig hB]
  have vB : val (2 ^ w) Bb = b := by rw [← hBb, val_dig hB]
  have oA : Ok (2 ^ w) A := by rw [← hA]; exact ok_dig hB a
  have oB : Ok (2 ^ w) Bb := by rw [← hBb]; exact ok_dig hB b
  refine ⟨⟨by decide, by omega, trivial⟩, ?_⟩
  refine for_up (fun k lo h' => ∃ acc c, lo 0 = some (.ref i) ∧ lo 1 = some (.ref j) ∧ lo 2 = some (.int (w : Int)) ∧ lo 3 = some (.ref h.length) ∧ lo 4 = some (.int (c : Nat)) ∧ lo 5 = some (.int ((2 : Int) ^ w - 1)) ∧
      Ext h h' ∧ h'[h.length]? = some (.L (nl acc)) ∧ acc.length = k ∧ Ok (2 ^ w) acc ∧ c ≤ 1 ∧ val (2 ^ w) acc + (2 ^ w) ^ k * c = val (2 ^ w) (A.take k) + val (2 ^ w) (Bb.take k)) Bb.length ?_ ?_ ?_ ?_
  · unfold rangeN; rw [if_pos rfl]; omega
  · exact ⟨[], 0, e0, e1, e2, rfl, rfl, rfl, Ext.push _ _, push_last _ _, rfl, fun x hx => by simp at hx, by omega, by simp [val]⟩
  · intro k lo h' K' hk hI nx rr
    refine ex2 hI fun acc c hJ_ => and12 hJ_ fun f0 f1 f2 f3 f4 f5 hE hacc hal hao hc hv => ?_
    clear hJ_ hI
    have hkA : k < A.length := by omega
    simp (config := { decide := true }) only [qSs0, qSs1, nextP_next, nextP_ret, qS0, qS1, qS2, qS3, qS4, qS5, qS6, qS7, qS8, qS9, qS10, qS11, qS12, tupP_r, getT_T, getP_some, cond_true, cond_false, qE0, qE1, qE2, qE3, qE4, qE5, qE6, qE7, qE8, qE9, qE10, qE11, qE12, qE13, qE14, qE15, qE16, qE17, qE18, qE19, qE20, qE21, qE22, qE23, qE24, qE25, qE26, qT0, qT1, upd, Nat.reduceBEq, if_true, if_false, f0, f1, f2, f3, f4, f5, Int.zero_add, getL_L, endP_ret, endP_next]
    refine ix_nl (hE _ _ ha) rfl hkA (ix_nl (hE _ _ hb) rfl hk ?_)
    have xa := ok_get oA hkA
    have xb := ok_get oB hk
    have ta := take_succ_val (2 ^ w) A k hkA
    have tb := take_succ_val (2 ^ w) Bb k hk
    generalize A[k] = x at *
    generalize Bb[k] = y at *
    simp (config := { decide := true }) only [bA, bC, bS, bM, bR, rep1_one, bD, bO, bL, bH, bN, bU, bP, getL_L, upd, Nat.reduceBEq, cond_true, cond_false, if_true, if_false, f0, f1, f2, f3, f4, f5, ← Int.natCast_add, band_mask, fdiv_pow, Int.toNat_natCast, nP, listP_r, hacc, getP_some, nextP_next, nextP_ret, endP_ret, endP_next]
    refine ⟨⟨_, rfl⟩, h5, ?_⟩
    refine app_nl hacc h5 (by omega) ?_
    refine ⟨⟨_, rfl⟩, hw.shl.1, ?_⟩
    refine nx _ _ ⟨acc ++ [(c + (x + y)) % 2 ^ w], (c + (x + y)) / 2 ^ w, f0, f1, f2, f3, rfl, f5, hE.set (Nat.le_refl _), set_self hacc, by simp [hal], ok_append hao (ok_one (Nat.mod_lt _ (by omega))), ?_, ?_⟩
    · have : (c + (x + y)) / 2 ^ w < 2 := by rw [Nat.div_lt_iff_lt_mul (by omega)]; omega
      omega
    · rw [val_snoc, hal, ta, tb, Nat.pow_succ]
      have := carry_step ((2 ^ w) ^ k) (2 ^ w) (c + (x + y))
      rw [Nat.mul_add _ c, Nat.mul_add _ x] at this
      omega
  · intro lo h' hI
    refine ex2 hI fun acc c hJ_ => and12 hJ_ fun f0 f1 f2 f3 f4 f5 hE hacc hal hao hc hv => ?_
    clear hJ_ hI
    simp only [List.take_length, vB] at hv
    simp (config := { decide := true }) only [qSs0, qSs1, nextP_next, nextP_ret, qS0, qS1, qS2, qS3, qS4, qS5, qS6, qS7, qS8, qS9, qS10, qS11, qS12, tupP_r, getT_T, getP_some, cond_true, cond_false, qE0, qE1, qE2, qE3, qE4, qE5, qE6, qE7, qE8, qE9, qE10, qE11, qE12, qE13, qE14, qE15, qE16, qE17, qE18, qE19, qE20, qE21, qE22, qE23, qE24, qE25, qE26, qT0, qT1, upd, Nat.reduceBEq, if_true, if_false, f0, f1, f2, f3, f4, f5, listP_r, getL_L, hE _ _ ha, hE _ _ hb, intP_i, nl_len, endP_ret, endP_next]
    refine ⟨⟨by omega, by omega, trivial⟩, ?_⟩
    refine for_up (fun k lo h' => ∃ acc c, lo 0 = some (.ref i) ∧ lo 1 = some (.ref j) ∧ lo 2 = some (.int (w : Int)) ∧ lo 3 = some (.ref h.length) ∧ lo 4 = some (.int (c : Nat)) ∧ lo 5 = some (.int ((2 : Int) ^ w - 1)) ∧
        Ext h h' ∧ h'[h.length]? = some (.L (nl acc)) ∧ acc.length = Bb.length + k ∧ Ok (2 ^ w) acc ∧ c ≤ 1 ∧ val (2 ^ w) acc + (2 ^ w) ^ (Bb.length + k) * c = val (2 ^ w) (A.take (Bb.length + k)) + b) (A.length - Bb.length) ?_ ?_ ?_ ?_
    · unfold rangeN; rw [if_pos rfl]; omega
    · exact ⟨acc, c, f0, f1, f2, f3, f4, f5, hE, hacc, by omega, hao, hc, by simpa using hv⟩
    · intro k lo h' K' hk hI nx rr
      clear hv hacc hal hao hc f0 f1 f2 f3 f4 f5 hE
      clear acc c
      refine ex2 hI fun acc c hJ_ => and12 hJ_ fun f0 f1 f2 f3 f4 f5 hE hacc hal hao hc hv => ?_
      clear hJ_ hI
      have hkA : Bb.length + k < A.length := by omega
      simp (config := { decide := true }) only [qSs0, qSs1, nextP_next, nextP_ret, qS0, qS1, qS2, qS3, qS4, qS5, qS6, qS7, qS8, qS9, qS10, qS11, qS12, tupP_r, getT_T, getP_some, cond_true, cond_false, qE0, qE1, qE2, qE3, qE4, qE5, qE6, qE7, qE8, qE9, qE10, qE11, qE12, qE13, qE14, qE15, qE16, qE17, qE18, qE19, qE20, qE21, qE22, qE23, qE24, qE25, qE26, qT0, qT1, upd, Nat.reduceBEq, if_true, if_false, f0, f1, f2, f3, f4, f5, getL_L, endP_ret, endP_next]
      refine ix_nl (hE _ _ ha) (by omega) hkA ?_
      have xa := ok_get oA hkA
      have ta := take_succ_val (2 ^ w) A (Bb.length + k) hkA
      generalize A[Bb.length + k] = x at *
      simp (config := { decide := true }) only [bA, bC, bS, bM, bR, rep1_one, bD, bO, bL, bH, bN, bU, bP, getL_L, upd, Nat.reduceBEq, cond_true, cond_false, if_true, if_false, f0, f1, f2, f3, f4, f5, ← Int.natCast_add, band_mask, fdiv_pow, Int.toNat_natCast, nP, listP_r, hacc, getP_some, nextP_next, nextP_ret, endP_ret, endP_next]
      refine ⟨⟨_, rfl⟩, h5, ?_⟩
      refine app_nl hacc h5 (by omega) ?_
      refine ⟨⟨_, rfl⟩, hw.shl.1, ?_⟩
      refine nx _ _ ⟨acc ++ [(c + x) % 2 ^ w], (c + x) / 2 ^ w, f0, f1, f2, f3, rfl, f5, hE.set (Nat.le_refl _), set_self hacc, by simp [hal]; omega, ok_append hao (ok_one (Nat.mod_lt _ (by omega))), ?_, ?_⟩
      · have : (c + x) / 2 ^ w < 2 := by rw [Nat.div_lt_iff_lt_mul (by omega)]; omega
        omega
      · rw [val_snoc, hal, ← Nat.add_assoc, ta, Nat.pow_succ]
        have := carry_step ((2 ^ w) ^ (Bb.length + k)) (2 ^ w) (c + x)
        rw [Nat.mul_add _ c] at this
        omega
    · intro lo h' hI
      clear hv hacc hal hao hc f0 f1 f2 f3 f4 f5 hE
      clear acc c
      refine ex2 hI fun acc c hJ_ => and12 hJ_ fun f0 f1 f2 f3 f4 f5 hE hacc hal hao hc hv => ?_
      clear hJ_ hI
      have hall : Bb.length + (A.length - Bb.length) = A.length := by omega
      rw [hall] at hal hv
      rw [List.take_length, vA] at hv
      simp (config := { decide := true }) only [qSs0, qSs1, nextP_next, nextP_ret, qS0, qS1, qS2, qS3, qS4, qS5, qS6, qS7, qS8, qS9, qS10, qS11, qS12, tupP_r, getT_T, getP_some, cond_true, cond_false, qE0, qE1, qE2, qE3, qE4, qE5, qE6, qE7, qE8, qE9, qE10, qE11, qE12, qE13, qE14, qE15, qE16, qE17, qE18, qE19, qE20, qE21, qE22, qE23, qE24, qE25, qE26, qT0, qT1, upd, Nat.reduceBEq, if_true, if_false, f0, f1, f2, f3, f4, f5, cQ, cN, cL, cM, cG, cH, cX, cY, cR, boolP_b, getL_L, endP_ret, endP_next]
      by_cases h0 : c = 0
      · subst h0
        rw [decide_eq_false (by omega)]
        simp (config := { decide := true }) only [qSs0, qSs1, nextP_next, nextP_ret, qS0, qS1, qS2, qS3, qS4, qS5, qS6, qS7, qS8, qS9, qS10, qS11, qS12, tupP_r, getT_T, getP_some, cond_true, cond_false, qE0, qE1, qE2, qE3, qE4, qE5, qE6, qE7, qE8, qE9, qE10, qE11, qE12, qE13, qE14, qE15, qE16, qE17, qE18, qE19, qE20, qE21, qE22, qE23, qE24, qE25, qE26, f3, if_false, getL_L, endP_ret, endP_next]
        refine K _ _ hE (Nat.le_refl _) ?_
        have : acc = dig (2 ^ w) (a + b) := by
          rw [Nat.mul_zero, Nat.add_zero] at hv
          rw [← hv]
          refine dig_eq hB hao (nrm_of_ge hao fun hne => ?_)
          have hap : 0 < a := by
            rcases Nat.eq_zero_or_pos a with h | h
            · rw [h, dig_zero] at hA
              rw [← hA] at hal
              exact absurd (List.length_eq_zero_iff.mp hal) hne
            · exact h
          have := dig_ge_len hB hap
          rw [hA] at this
          rw [hal, hv]; omega
        rw [← this]; exact hacc
      · have hc1 : c = 1 := by omega
        subst hc1
        rw [decide_eq_true (by omega)]
        simp (config := { decide := true }) only [qSs0, qSs1, nextP_next, nextP_ret, qS0, qS1, qS2, qS3, qS4, qS5, qS6, qS7, qS8, qS9, qS10, qS11, qS12, tupP_r, getT_T, getP_some, cond_true, cond_false, qE0, qE1, qE2, qE3, qE4, qE5, qE6, qE7, qE8, qE9, qE10, qE11, qE12, qE13, qE14, qE15, qE16, qE17, qE18, qE19, qE20, qE21, qE22, qE23, qE24, qE25, qE26, f3, f4, if_true, nP, listP_r, getL_L, hacc, endP_ret, endP_next]
        refine ⟨h5, app_nl hacc h5 (by omega) ?_⟩
        refine K _ _ (hE.set (Nat.le_refl _)) (Nat.le_refl _) ?_
        have : acc ++ [1] = dig (2 ^ w) (a + b) := by
          have e : val (2 ^ w) (acc ++ [1]) = a + b := by rw [val_snoc, hal]; omega
          rw [← e]
          refine dig_eq hB (ok_append hao (ok_one (by omega))) ?_
          simp [Nrm]
        rw [← this]; exact set_self hacc

theorem ev_add {d i j w a b : Nat} {h : Hp} {Q : KV} (hw : WW w) (h5 : ro ≤ h.length) (ha : h[i]? = some (.L (nl (dig (2 ^ w) a)))) (hb : h[j]? = some (.L (nl (dig (2 ^ w) b)))) (la : a < lim) (lb : b < lim)
    (K : ∀ h' k, Ext h h' → h.length ≤ k → h'[k]? = some (.L (nl (dig (2 ^ w) (a + b)))) → Q (.ref k) h') : callD prg (d + 1) 79 [.ref i, .ref j, .int (w : Int)] h Q := by
  have p1 : prg 79 = some (3, p_add) := rfl
  have p2 : p_add = (p_add.take 1) ++ p_add.drop 1 := rfl
  simp only [callD_succ, getP_some, endP_ret, endP_next, p1, List.length_cons, List.length_nil, true_and, getL_L, nextP_next, nextP_ret, cond_true, cond_false]
  show wpSs _ (_ :: p_add.drop 1) _ _ _
  simp only [qSs0, qSs1, nextP_next, nextP_ret, qS0, qS1, qS2, qS3, qS4, qS5, qS6, qS7, qS8, qS9, qS10, qS11, qS12, tupP_r, getT_T, getP_some, cond_true, cond_false, qE0, qE1, qE2, qE3, qE4, qE5, qE6, qE7, qE8, qE9, qE10, qE11, qE12, qE13, qE14, qE15, qE16, qE17, qE18, qE19, qE20, qE21, qE22, qE23, qE24, qE25, qE26, List.getElem?_cons_zero, List.getElem?_cons_succ, listP_r, getL_L, ha, hb, cQ, cN, cL, cM, cG, cH, cX, cY, cR, boolP_b, nl_len, endP_ret, endP_next]
  by_cases hl : (dig (2 ^ w) a).length < (dig (2 ^ w) b).length
  · rw [decide_eq_true (by omega)]
    simp (config := { decide := true }) only [if_true, cond_true, qSs0, qSs1, nextP_next, nextP_ret, qS0, qS1, qS2, qS3, qS4, qS5, qS6, qS7, qS8, qS9, qS10, qS11, qS12, tupP_r, getT_T, getP_some, cond_false, qEs0, qEs1, qE0, qE1, qE2, qE3, qE4, qE5, qE6, qE7, qE8, qE9, qE10, qE11, qE12, qE13, qE14, qE15, qE16, qE17, qE18, qE19, qE20, qE21, qE22, qE23, qE24, qE25, qE26, qTs0, qTs1, qT0, qT1, List.getElem?_cons_zero, List.getElem?_cons_succ, getL_L, endP_ret, endP_next]
    refine add_core hw h5 hb ha lb la rfl rfl rfl (by omega) fun h' k x y z => K h' k x y (by rw [Nat.add_comm a b]; exact z)
  · rw [decide_eq_false (by omega)]
    simp (config := { decide := true }) only [if_false, cond_false, qSs0, qSs1, nextP_next, nextP_ret, getP_some, getL_L, endP_ret, endP_next, cond_true]
    exact add_core hw h5 ha hb la lb (by simp) (by simp) (by simp) (by omega) K
end Mine

set_option linter.unusedVariables false
set_option linter.unusedSimpArgs false
set_option autoImplicit false
namespace Mine
open PySem

theorem dig_mono {B a b : Nat} (hB : 2 ≤ B) (h : b ≤ a) : (dig B b).length ≤ (dig B a).length :=
  dig_len hB (Nat.lt_of_le_of_lt h (dig_lt_len hB a))

theorem ev_sub {d i j w a b : Nat} {h : Hp} {Q : KV} (hw : WW w) (h5 : ro ≤ h.length) (ha : h[i]? = some (.L (nl (dig (2 ^ w) a)))) (hb : h[j]? = some (.L (nl (dig (2 ^ w) b)))) (la : a < lim) (hle : b ≤ a)
    (K : ∀ h' k, Ext h h' → h.length ≤ k → h'[k]? = some (.L (nl (dig (2 ^ w) (a - b)))) → Q (.ref k) h') : callD prg (d + 2) 86 [.ref i, .ref j, .int (w : Int)] h Q := by
  have p1 : prg 86 = some (3, p_sub) := rfl
  have hB := hw.two
  have hT := hw.top
  have lb : b < lim := Nat.lt_of_le_of_lt hle la
  have l1 := dig_lim hB la
  have b1 : (200 : Nat) < big := by decide
  rw [callD_succ, p1]
  simp only [List.length_cons, List.length_nil, true_and, p_sub, qSs0, qSs1, nextP_next, nextP_ret, qS0, qS1, qS2, qS3, qS4, qS5, qS6, qS7, qS8, qS9, qS10, qS11, qS12, tupP_r, getT_T, getP_some, cond_true, cond_false, qE0, qE1, qE2, qE3, qE4, qE5, qE6, qE7, qE8, qE9, qE10, qE11, qE12, qE13, qE14, qE15, qE16, qE17, qE18, qE19, qE20, qE21, qE22, qE23, qE24, qE25, qE26, qEs0, qEs1, qTs0, qTs1, qT0, qT1, List.getElem?_cons_zero, List.getElem?_cons_succ, fnP_f, getL_L, endP_ret, endP_next]
  refine ev_compare hB ha hb la lb fun c hc => ?_
  simp only [cQ, cN, cL, cM, cG, cH, cX, cY, cR, boolP_b, getP_some, getL_L, nextP_next, nextP_ret, endP_ret, endP_next, cond_true, cond_false]
  rw [decide_eq_false (by omega)]
  simp (config := { decide := true }) only [if_false, cond_false, qSs0, qSs1, nextP_next, nextP_ret, bA, bC, bS, bM, bR, rep1_one, bD, bO, bL, bH, bN, bU, bP, getL_L, Int.one_mul, Int.toNat_natCast, getP_some, endP_ret, endP_next, cond_true]
  refine ⟨⟨hw.shl.1, hw.shl.2, trivial⟩, ?_⟩
  have lle := dig_mono hB hle
  generalize hA : dig (2 ^ w) a = A at *
  generalize hBb : dig (2 ^ w) b = Bb at *
  have vA : val (2 ^ w) A = a := by rw [← hA, val_dig hB]
  have vB : val (2 ^ w) Bb = b := by rw [← hBb, val_dig hB]
  have oA : Ok (2 ^ w) A := by rw [← hA]; exact ok_dig hB a
  have oB : Ok (2 ^ w) Bb := by rw [← hBb]; exact ok_dig hB b
  simp (config := { decide := true }) only [upd, Nat.reduceBEq, cond_true, cond_false, if_true, if_false, List.getElem?_cons_zero, listP_r, getL_L, push_get ha, intP_i, nl_len, getP_some, nextP_next, nextP_ret, endP_ret, endP_next]
  refine ⟨⟨by decide, by omega, trivial⟩, ?_⟩
  refine for_up (fun k lo h' => ∃ acc c, lo 0 = some (.ref i) ∧ lo 1 = some (.ref j) ∧ lo 2 = some (.int (w : Int)) ∧ lo 3 = some (.ref h.length) ∧ lo 4 = some (.int (c : Nat)) ∧ lo 5 = some (.int ((2 : Int) ^ w)) ∧
      Ext h h' ∧ h'[h.length]? = some (.L (nl acc)) ∧ acc.length = k ∧ Ok (2 ^ w) acc ∧ c ≤ 1 ∧ val (2 ^ w) acc + val (2 ^ w) (Bb.take k) = val (2 ^ w) (A.take k) + (2 ^ w) ^ k * c) A.length ?_ ?_ ?_ ?_
  · unfold rangeN; rw [if_pos rfl]; omega
  · exact ⟨[], 0, rfl, rfl, rfl, rfl, rfl, rfl, Ext.push _ _, push_last _ _, rfl, fun x hx => by simp at hx, by omega, by simp [val]⟩
  · intro k lo h' K' hk hI nx rr
    refine ex2 hI fun acc c hJ_ => and12 hJ_ fun f0 f1 f2 f3 f4 f5 hE hacc hal hao hc hv => ?_
    clear hJ_ hI
    simp (config := { decide := true }) only [qSs0, qSs1, nextP_next, nextP_ret, qS0, qS1, qS2, qS3, qS4, qS5, qS6, qS7, qS8, qS9, qS10, qS11, qS12, tupP_r, getT_T, getP_some, cond_true, cond_false, qE0, qE1, qE2, qE3, qE4, qE5, qE6, qE7, qE8, qE9, qE10, qE11, qE12, qE13, qE14, qE15, qE16, qE17, qE18, qE19, qE20, qE21, qE22, qE23, qE24, qE25, qE26, qT0, qT1, upd, Nat.reduceBEq, if_true, if_false, f0, f1, f2, f3, f4, f5, Int.zero_add, getL_L, endP_ret, endP_next]
    refine ix_nl (hE _ _ ha) rfl hk ?_
    have xa := ok_get oA hk
    have ta := take_succ_val (2 ^ w) A k hk
    generalize A[k] = x at *
    simp (config := { decide := true }) only [bA, bC, bS, bM, bR, rep1_one, bD, bO, bL, bH, bN, bU, bP, getL_L, listP_r, hE _ _ hb, nl_len, cQ, cN, cL, cM, cG, cH, cX, cY, cR, boolP_b, getP_some, nextP_next, nextP_ret, endP_ret, endP_next, cond_true, cond_false]
    have hp2 : ((2 : Int) ^ w) = ((2 ^ w : Nat) : Int) := by rw [Int.natCast_pow]; rfl
    have tail : ∀ (y : Nat), y < 2 ^ w → val (2 ^ w) (Bb.take (k + 1)) = val (2 ^ w) (Bb.take k) + (2 ^ w) ^ k * y → ∀ lo', lo' = upd (upd lo 6 (.int (k : Int))) 7 (.int ((x : Int) - (c : Int) - (y : Int))) →
        (bif decide ((x : Int) - (c : Int) - (y : Int) < 0) then
          (newP (.ref h.length) ∧ listP (.ref h.length) h' fun _ => appP (.ref h.length) (.int ((x : Int) - (c : Int) - (y : Int) + (2 : Int) ^ w)) h' fun h => K' .next (upd lo' 4 (.int 1)) h)
        else (newP (.ref h.length) ∧ listP (.ref h.length) h' fun _ => appP (.ref h.length) (.int ((x : Int) - (c : Int) - (y : Int))) h' fun h => K' .next (upd lo' 4 (.int 0)) h)) := by
      rintro y hy tb lo' rfl
      have fin : ∀ (c' z : Nat), c' ≤ 1 → z < 2 ^ w → z + c + y = x + 2 ^ w * c' → ∀ hh, hh = h'.set h.length (.L (nl (acc ++ [z]))) →
          K' .next (upd (upd (upd lo 6 (.int (k : Int))) 7 (.int ((x : Int) - (c : Int) - (y : Int)))) 4 (.int (c' : Int))) hh := by
        rintro c' z hc' hz hzz hh rfl
        refine nx _ _ ⟨acc ++ [z], c', f0, f1, f2, f3, rfl, f5, hE.set (Nat.le_refl _), set_self hacc, by simp [hal], ok_append hao (ok_one hz), hc', ?_⟩
        rw [val_snoc, hal, ta, tb, Nat.pow_succ, Nat.mul_assoc]
        have := congrArg ((2 ^ w) ^ k * ·) hzz
        simp only [Nat.mul_add] at this
        omega
      by_cases ht : (x : Int) - (c : Int) - (y : Int) < 0
      · rw [decide_eq_true ht]
        refine ⟨h5, ?_⟩
        simp only [listP_r, getL_L, hacc, getP_some, nextP_next, nextP_ret, endP_ret, endP_next, cond_true, cond_false]
        have e : (x : Int) - (c : Int) - (y : Int) + (2 : Int) ^ w = ((x + 2 ^ w - c - y : Nat) : Int) := by rw [hp2]; omega
        rw [e]
        exact app_nl hacc h5 (by omega) (fin 1 _ (by omega) (by omega) (by omega) _ rfl)
      · rw [decide_eq_false ht]
        refine ⟨h5, ?_⟩
        simp only [listP_r, getL_L, hacc, getP_some, nextP_next, nextP_ret, endP_ret, endP_next, cond_true, cond_false]
        have e : (x : Int) - (c : Int) - (y : Int) = ((x - c - y : Nat) : Int) := by omega
        have := app_nl (KK := fun h => K' .next (upd (upd (upd lo 6 (.int (k : Int))) 7 (.int ((x : Int) - (c : Int) - (y : Int)))) 4 (.int 0)) h) (y := x - c - y) hacc h5 (by omega) (fin 0 _ (by omega) (by omega) (by omega) _ rfl)
        rw [← e] at this
        exact this
    by_cases hkb : k < Bb.length
    · rw [decide_eq_true (by omega)]
      simp (config := { decide := true }) only [if_true, cond_true, getP_some, getL_L, nextP_next, nextP_ret, endP_ret, endP_next, cond_false]
      refine ix_nl (hE _ _ hb) rfl hkb ?_
      have := tail Bb[k] (ok_get oB hkb) (take_succ_val _ _ _ hkb) _ rfl
      generalize Bb[k] = y at *
      simp (config := { decide := true }) only [bA, bC, bS, bM, bR, rep1_one, bD, bO, bL, bH, bN, bU, bP, getL_L, upd, Nat.reduceBEq, cond_true, cond_false, if_true, if_false, cQ, cN, cL, cM, cG, cH, cX, cY, cR, boolP_b, getP_some, nextP_next, nextP_ret, endP_ret, endP_next]
      by_cases hs : ((x : Int) - (c : Int) - (y : Int) < 0)
      · rw [decide_eq_true hs] at this ⊢; exact this
      · rw [decide_eq_false hs] at this ⊢; exact this
    · rw [decide_eq_false (by omega)]
      simp (config := { decide := true }) only [if_false, cond_false, getP_some, getL_L, nextP_next, nextP_ret, endP_ret, endP_next, cond_true]
      have := tail 0 (by omega) (by rw [List.take_of_length_le (by omega), List.take_of_length_le (by omega)]; simp) _ rfl
      rw [show (((0 : Nat)) : Int) = 0 from rfl] at this
      by_cases hs : ((x : Int) - (c : Int) - 0 < 0)
      · rw [decide_eq_true hs] at this ⊢; exact this
      · rw [decide_eq_false hs] at this ⊢; exact this
  · intro lo h' hI
    refine ex2 hI fun acc c hJ_ => and12 hJ_ fun f0 f1 f2 f3 f4 f5 hE hacc hal hao hc hv => ?_
    clear hJ_ hI
    rw [List.take_length, vA, List.take_of_length_le lle, vB] at hv
    simp (config := { decide := true }) only [qSs0, qSs1, nextP_next, nextP_ret, qS0, qS1, qS2, qS3, qS4, qS5, qS6, qS7, qS8, qS9, qS10, qS11, qS12, tupP_r, getT_T, getP_some, cond_true, cond_false, qE0, qE1, qE2, qE3, qE4, qE5, qE6, qE7, qE8, qE9, qE10, qE11, qE12, qE13, qE14, qE15, qE16, qE17, qE18, qE19, qE20, qE21, qE22, qE23, qE24, qE25, qE26, qEs0, qEs1, f3, fnP_f, getL_L, endP_ret, endP_next]
    refine ev_normal hB hao hacc ?_
    have hlt := val_lt hao
    rw [hal] at hlt
    have hc0 : c = 0 := by
      rcases Nat.eq_zero_or_pos c with h | h
      · exact h
      · have : c = 1 := by omega
        subst this
        omega
    subst hc0
    have e : val (2 ^ w) acc = a - b := by omega
    rw [e]
    exact K _ _ (hE.push' _) hE.len (push_last _ _)
end Mine

set_option linter.unusedVariables false
set_option linter.unusedSimpArgs false
set_option autoImplicit false
namespace Mine
open PySem

theorem for_enum {i : Nat} {l : List Nat} {f : V × Nat → Lo → Hp → KR → Prop} {K : KR} {lo : Lo} {h : Hp} (I : Nat → Lo → Hp → Prop)
    (h0 : I 0 lo h) (chk : ∀ k lo h, I k lo h → h[i]? = some (.L (nl l)))
    (step : ∀ (k : Nat) (hk : k < l.length) (lo : Lo) (h : Hp) (K' : KR), I k lo h → (∀ lo h, I (k + 1) lo h → K' .next lo h) → (∀ u lo h, K (.ret u) lo h → K' (.ret u) lo h) → f (.int (l[k] : Nat), k) lo h K')
    (fin : ∀ lo h, I l.length lo h → K .next lo h) : forP (isListAt (.ref i) (nl l)) f (nl l).zipIdx lo h K := by
  refine forP_inv I _ (fun k x lo h K' e i nx rr => ?_) (fun k lo h i => chk k lo h i) (fun lo h i => fin lo h (by simpa using i)) lo h h0
  rw [List.getElem?_zipIdx] at e
  have hk : k < l.length := by
    by_cases hk : k < l.length
    · exact hk
    · rw [List.getElem?_eq_none (by simp; omega)] at e; simp at e
  rw [nl_get _ _ hk] at e
  simp at e
  subst e
  exact step k hk lo h K' i nx rr
theorem for_list {i : Nat} {l : List Nat} {f : V → Lo → Hp → KR → Prop} {K : KR} {lo : Lo} {h : Hp} (I : Nat → Lo → Hp → Prop)
    (h0 : I 0 lo h) (chk : ∀ k lo h, I k lo h → h[i]? = some (.L (nl l)))
    (step : ∀ (k : Nat) (hk : k < l.length) (lo : Lo) (h : Hp) (K' : KR), I k lo h → (∀ lo h, I (k + 1) lo h → K' .next lo h) → (∀ u lo h, K (.ret u) lo h → K' (.ret u) lo h) → f (.int (l[k] : Nat)) lo h K')
    (fin : ∀ lo h, I l.length lo h → K .next lo h) : forP (isListAt (.ref i) (nl l)) f (nl l) lo h K := by
  refine forP_inv I _ (fun k x lo h K' e i nx rr => ?_) (fun k lo h i => chk k lo h i) (fun lo h i => fin lo h (by simpa using i)) lo h h0
  have hk : k < l.length := by
    by_cases hk : k < l.length
    · exact hk
    · rw [List.getElem?_eq_none (by simp; omega)] at e; simp at e
  rw [nl_get _ _ hk] at e
  simp at e
  subst e
  exact step k hk lo h K' i nx rr

theorem mul_bound {B x y c o : Nat} (hx : x < B) (hy : y < B) (hc : c < B) (ho : o < B) : c + (o + x * y) < B * B := by
  obtain ⟨m, rfl⟩ : ∃ m, B = m + 1 := ⟨B - 1, by omega⟩
  have := Nat.mul_le_mul (show x ≤ m by omega) (show y ≤ m by omega)
  rw [Nat.add_mul, Nat.mul_add, Nat.mul_one, Nat.one_mul]
  omega
theorem rep_nl (n : Nat) : List.replicate n (V.int 0) = nl (List.replicate n 0) := by simp

theorem ev_mul {d i j w a b : Nat} {h : Hp} {Q : KV} (hw : WW w) (h5 : ro ≤ h.length) (ha : h[i]? = some (.L (nl (dig (2 ^ w) a)))) (hb : h[j]? = some (.L (nl (dig (2 ^ w) b)))) (la : a < lim) (lb : b < lim)
    (K : ∀ h' k, Ext h h' → h.length ≤ k → h'[k]? = some (.L (nl (dig (2 ^ w) (a * b)))) → Q (.ref k) h') : callD prg (d + 2) 212 [.ref i, .ref j, .int (w : Int)] h Q := by
  have p1 : prg 212 = some (3, p_mul_school) := rfl
  have hB := hw.two
  have hT := hw.top
  have l1 := dig_lim hB la
  have l2 := dig_lim hB lb
  have b1 : (400 : Nat) < big := by decide
  rw [callD_succ, p1]
  have ha1 : ∀ o, (h ++ [o])[i]? = some (.L (nl (dig (2 ^ w) a))) := fun o => push_get ha
  have hb1 : ∀ o, (h ++ [o])[j]? = some (.L (nl (dig (2 ^ w) b))) := fun o => push_get hb
  simp (config := { decide := true }) only [List.length_cons, List.length_nil, true_and, p_mul_school, qSs0, qSs1, nextP_next, nextP_ret, qS0, qS1, qS2, qS3, qS4, qS5, qS6, qS7, qS8, qS9, qS10, qS11, qS12, tupP_r, getT_T, getP_some, cond_true, cond_false, qE0, qE1, qE2, qE3, qE4, qE5, qE6, qE7, qE8, qE9, qE10, qE11, qE12, qE13, qE14, qE15, qE16, qE17, qE18, qE19, qE20, qE21, qE22, qE23, qE24, qE25, qE26, qEs0, qEs1, qTs0, qTs1, qT0, qT1, List.getElem?_cons_zero, List.getElem?_cons_succ, fnP_f, listP_r, getL_L, ha1, hb1, nl_len, bA, bC, bS, bM, bR, rep1_one, bD, bO, bL, bH, bN, bU, bP, push_last, endP_ret, endP_next, intP_i, boolP_b]
  rw [← Int.natCast_add, Int.toNat_natCast, rep_nl]
  have hlen : (h ++ [Ob.L [V.int 0]]).length = h.length + 1 := by simp
  rw [hlen]
  have ha2 : ∀ o o', (h ++ [o] ++ [o'])[i]? = some (.L (nl (dig (2 ^ w) a))) := fun o o' => push_get (push_get ha)
  have hb2 : ∀ o o', (h ++ [o] ++ [o'])[j]? = some (.L (nl (dig (2 ^ w) b))) := fun o o' => push_get (push_get hb)
  generalize hp : h.length + 1 = p
  have hpl : h.length ≤ p := by omega
  have E2 : ∀ o o', Ext h (h ++ [o] ++ [o']) := fun o o' => (Ext.push _ _).push' _
  have P2 : ∀ o o', (h ++ [o] ++ [o'])[p]? = some o' := fun o o' => by
    have := push_last (h ++ [o]) o'
    rw [show (h ++ [o]).length = p by simp; omega] at this
    exact this
  refine ⟨⟨by omega, by omega, by omega⟩, ⟨hw.shl.1, hw.shl.2, trivial⟩, ?_⟩
  simp (config := { decide := true }) only [upd, Nat.reduceBEq, cond_true, cond_false, if_true, if_false, List.getElem?_cons_zero, ha2, getP_some, getL_L, nextP_next, nextP_ret, endP_ret, endP_next, listP_r, intP_i, boolP_b, fnP_f]
  generalize hA : dig (2 ^ w) a = A at *
  generalize hBb : dig (2 ^ w) b = Bb at *
  have vA : val (2 ^ w) A = a := by rw [← hA, val_dig hB]
  have vB : val (2 ^ w) Bb = b := by rw [← hBb, val_dig hB]
  have oA : Ok (2 ^ w) A := by rw [← hA]; exact ok_dig hB a
  have oB : Ok (2 ^ w) Bb := by rw [← hBb]; exact ok_dig hB b
  refine for_enum (fun k lo h' => ∃ acc, lo 0 = some (.ref i) ∧ lo 1 = some (.ref j) ∧ lo 2 = some (.int (w : Int)) ∧ lo 3 = some (.ref p) ∧ lo 4 = some (.int ((2 : Int) ^ w - 1)) ∧
      Ext h h' ∧ h'[p]? = some (.L (nl acc)) ∧ acc.length = A.length + Bb.length ∧ Ok (2 ^ w) acc ∧ (∀ m, k + Bb.length ≤ m → m < A.length + Bb.length → acc[m]? = some 0) ∧ val (2 ^ w) acc = val (2 ^ w) (A.take k) * b) ?_ ?_ ?_ ?_
  · refine ⟨List.replicate (A.length + Bb.length) 0, by simp [upd], by simp [upd], by simp [upd], by simp [upd], by simp [upd], E2 _ _, P2 _ _, by simp, ok_zeros (by omega), fun m h1 h2 => by simp [h2], by simp [val_zeros, val]⟩
  · intro k lo h' hI_
    refine ex1 hI_ fun acc hJ_ => and7 hJ_ fun _ _ _ _ _ hE _ => ?_
    clear hJ_ hI_
    exact hE _ _ ha
  · intro k hk lo h' K' hI nx rr
    refine ex1 hI fun acc hJ_ => and11 hJ_ fun f0 f1 f2 f3 f4 hE hacc hal hao hz hv => ?_
    clear hJ_ hI
    have xa := ok_get oA hk
    have ta := take_succ_val (2 ^ w) A k hk
    generalize A[k] = x at *
    simp (config := { decide := true }) only [qSs0, qSs1, nextP_next, nextP_ret, qS0, qS1, qS2, qS3, qS4, qS5, qS6, qS7, qS8, qS9, qS10, qS11, qS12, tupP_r, getT_T, getP_some, cond_true, cond_false, qE0, qE1, qE2, qE3, qE4, qE5, qE6, qE7, qE8, qE9, qE10, qE11, qE12, qE13, qE14, qE15, qE16, qE17, qE18, qE19, qE20, qE21, qE22, qE23, qE24, qE25, qE26, qT0, qT1, upd, Nat.reduceBEq, if_true, if_false, f0, f1, f2, f3, f4, listP_r, getL_L, hE _ _ hb, endP_ret, endP_next, intP_i, boolP_b, fnP_f]
    refine for_enum (fun m lo h' => ∃ acc c, lo 0 = some (.ref i) ∧ lo 1 = some (.ref j) ∧ lo 2 = some (.int (w : Int)) ∧ lo 3 = some (.ref p) ∧ lo 4 = some (.int ((2 : Int) ^ w - 1)) ∧ lo 5 = some (.int (k : Int)) ∧ lo 6 = some (.int (x : Int)) ∧ lo 7 = some (.int ((c : Nat) : Int)) ∧
      Ext h h' ∧ h'[p]? = some (.L (nl acc)) ∧ acc.length = A.length + Bb.length ∧ Ok (2 ^ w) acc ∧ c < 2 ^ w ∧ (∀ m, k + Bb.length ≤ m → m < A.length + Bb.length → acc[m]? = some 0) ∧
      val (2 ^ w) acc + (2 ^ w) ^ (k + m) * c = val (2 ^ w) (A.take k) * b + (2 ^ w) ^ k * (x * val (2 ^ w) (Bb.take m))) ?_ ?_ ?_ ?_
    · exact ⟨acc, 0, f0, f1, f2, f3, f4, rfl, rfl, rfl, hE, hacc, hal, hao, by omega, hz, by simp [val, hv]⟩
    · intro k lo h' hI_
      refine ex2 hI_ fun acc c hJ_ => and10 hJ_ fun _ _ _ _ _ _ _ _ hE _ => ?_
      clear hJ_ hI_
      exact hE _ _ hb
    · intro m hm lo h' K' hI nx rr
      clear hv hacc hal hao hz f0 f1 f2 f3 f4 hE
      clear acc
      refine ex2 hI fun acc c hJ_ => and15 hJ_ fun f0 f1 f2 f3 f4 f5 f6 f7 hE hacc hal hao hc hz hv => ?_
      clear hJ_ hI
      have yb := ok_get oB hm
      have tb := take_succ_val (2 ^ w) Bb m hm
      generalize Bb[m] = y at *
      have hidx : k + m < acc.length := by omega
      simp (config := { decide := true }) only [qSs0, qSs1, nextP_next, nextP_ret, qS0, qS1, qS2, qS3, qS4, qS5, qS6, qS7, qS8, qS9, qS10, qS11, qS12, tupP_r, getT_T, getP_some, cond_true, cond_false, qE0, qE1, qE2, qE3, qE4, qE5, qE6, qE7, qE8, qE9, qE10, qE11, qE12, qE13, qE14, qE15, qE16, qE17, qE18, qE19, qE20, qE21, qE22, qE23, qE24, qE25, qE26, qT0, qT1, upd, Nat.reduceBEq, if_true, if_false, f0, f1, f2, f3, f4, f5, f6, f7, bA, bC, bS, bM, bR, rep1_one, bD, bO, bL, bH, bN, bU, bP, getL_L, endP_ret, endP_next, listP_r, intP_i, boolP_b, fnP_f]
      refine ix_nl hacc (by omega) hidx ?_
      have vs := fun z => val_set (2 ^ w) acc (k + m) z hidx
      have xo := ok_get hao hidx
      generalize acc[k + m] = o at *
      have e : (c : Int) + ((o : Int) + (x : Int) * (y : Int)) = ((c + (o + x * y) : Nat) : Int) := by rw [Int.natCast_add, Int.natCast_add, Int.natCast_mul]
      simp (config := { decide := true }) only [bA, bC, bS, bM, bR, rep1_one, bD, bO, bL, bH, bN, bU, bP, getL_L, e, Int.natAbs_natCast, upd, Nat.reduceBEq, cond_true, cond_false, if_true, if_false, f3, f4, f5, f2, getP_some, nextP_next, nextP_ret, endP_ret, endP_next, listP_r, intP_i, boolP_b, fnP_f]
      refine ⟨⟨by omega, by omega⟩, ⟨_, rfl⟩, ?_⟩
      rw [band_mask]
      refine set_nl hacc (by omega) (by omega) hidx ?_
      refine ⟨⟨_, rfl⟩, hw.shl.1, ?_⟩
      rw [Int.toNat_natCast, fdiv_pow]
      have hmb := mul_bound xa yb hc xo
      refine nx _ _ ⟨acc.set (k + m) ((c + (o + x * y)) % 2 ^ w), (c + (o + x * y)) / 2 ^ w, f0, f1, f2, f3, f4, f5, f6, rfl, hE.set hpl, set_self hacc, by simp [hal], ok_set hao _ _ (Nat.mod_lt _ (by omega)), ?_, ?_, ?_⟩
      · rw [Nat.div_lt_iff_lt_mul (by omega)]; exact hmb
      · intro m' h1 h2
        rw [List.getElem?_set_ne (by omega)]; exact hz m' h1 h2
      · have v := vs ((c + (o + x * y)) % 2 ^ w)
        have cs := carry_step ((2 ^ w) ^ (k + m)) (2 ^ w) (c + (o + x * y))
        rw [tb, show k + (m + 1) = (k + m) + 1 from (Nat.add_assoc k m 1).symm, Nat.pow_succ]
        rw [Nat.mul_add _ c, Nat.mul_add _ o] at cs
        have e2 : (2 ^ w) ^ k * (x * (val (2 ^ w) (Bb.take m) + (2 ^ w) ^ m * y)) = (2 ^ w) ^ k * (x * val (2 ^ w) (Bb.take m)) + (2 ^ w) ^ (k + m) * (x * y) := by
          rw [Nat.mul_add x, Nat.mul_add, Nat.pow_add (2 ^ w) k m]
          congr 1
          rw [Nat.mul_assoc, Nat.mul_left_comm x]
        rw [e2]
        omega
    · intro lo h' hI
      clear hv hacc hal hao hz f0 f1 f2 f3 f4 hE
      clear acc
      refine ex2 hI fun acc c hJ_ => and15 hJ_ fun f0 f1 f2 f3 f4 f5 f6 f7 hE hacc hal hao hc hz hv => ?_
      clear hJ_ hI
      have hidx : k + Bb.length < acc.length := by omega
      have v := val_set (2 ^ w) acc (k + Bb.length) c hidx
      have z0 : acc[k + Bb.length] = 0 := by
        have := hz (k + Bb.length) (Nat.le_refl _) (by omega)
        rw [List.getElem?_eq_getElem hidx] at this
        exact Option.some.inj this
      rw [z0] at v
      rw [List.take_length, vB] at hv
      simp (config := { decide := true }) only [qSs0, qSs1, nextP_next, nextP_ret, qS0, qS1, qS2, qS3, qS4, qS5, qS6, qS7, qS8, qS9, qS10, qS11, qS12, tupP_r, getT_T, getP_some, cond_true, cond_false, qE0, qE1, qE2, qE3, qE4, qE5, qE6, qE7, qE8, qE9, qE10, qE11, qE12, qE13, qE14, qE15, qE16, qE17, qE18, qE19, qE20, qE21, qE22, qE23, qE24, qE25, qE26, qT0, qT1, upd, Nat.reduceBEq, if_true, if_false, f0, f1, f2, f3, f4, f5, f6, f7, bA, bC, bS, bM, bR, rep1_one, bD, bO, bL, bH, bN, bU, bP, getL_L, listP_r, hE _ _ hb, nl_len, endP_ret, endP_next, intP_i, boolP_b, fnP_f]
      refine set_nl hacc (by omega) (by omega) hidx ?_
      refine nx _ _ ⟨acc.set (k + Bb.length) c, by simp [f0], by simp [f1], by simp [f2], by simp [f3], by simp [f4], hE.set hpl, set_self hacc, by simp [hal], ok_set hao _ _ hc, ?_, ?_⟩
      · intro m' h1 h2
        rw [List.getElem?_set_ne (by omega)]; exact hz m' (by omega) h2
      · rw [ta, Nat.add_mul, Nat.mul_assoc]
        omega
  · intro lo h' hI
    refine ex1 hI fun acc hJ_ => and11 hJ_ fun f0 f1 f2 f3 f4 hE hacc hal hao hz hv => ?_
    clear hJ_ hI
    rw [List.take_length, vA] at hv
    simp (config := { decide := true }) only [qSs0, qSs1, nextP_next, nextP_ret, qS0, qS1, qS2, qS3, qS4, qS5, qS6, qS7, qS8, qS9, qS10, qS11, qS12, tupP_r, getT_T, getP_some, cond_true, cond_false, qE0, qE1, qE2, qE3, qE4, qE5, qE6, qE7, qE8, qE9, qE10, qE11, qE12, qE13, qE14, qE15, qE16, qE17, qE18, qE19, qE20, qE21, qE22, qE23, qE24, qE25, qE26, qEs0, qEs1, f3, fnP_f, getL_L, endP_ret, endP_next, listP_r, intP_i, boolP_b]
    refine ev_normal hB hao hacc ?_
    rw [hv]
    exact K _ _ (hE.push' _) hE.len (push_last _ _)
end Mine

set_option linter.unusedVariables false
set_option linter.unusedSimpArgs false
set_option autoImplicit false
namespace Mine
open PySem

theorem bitLen_pos {x w : Nat} (h0 : 0 < x) (h : x < 2 ^ w) : ∃ k : Nat, bitLen (x : Int) = k ∧ 1 ≤ k ∧ k ≤ w ∧ x < 2 ^ k := by
  refine ⟨x.log2 + 1, ?_, by omega, ?_, Nat.lt_log2_self⟩
  · unfold bitLen Builtin.Int.intBits
    have : ((x : Int) == 0) = false := by simp; omega
    rw [this]
    simp
  · have := (Nat.log2_lt (Nat.ne_of_gt h0)).mpr h
    omega

theorem ev_bits1 {d i w x : Nat} {h : Hp} {Q : KV} (hw : WW w) (hl : h[i]? = some (.L [.int (x : Int)])) (K : Q (.int (bitLen x)) h) : callD prg (d + 1) 114 [.ref i, .int (w : Int)] h Q := by
  have p1 : prg 114 = some (2, p_bits) := rfl
  simp (config := { decide := true }) only [callD_succ, getP_some, endP_ret, endP_next, p1, p_bits, List.length_cons, List.length_nil, true_and, qSs0, qSs1, nextP_next, nextP_ret, qS0, qS1, qS2, qS3, qS4, qS5, qS6, qS7, qS8, qS9, qS10, qS11, qS12, tupP_r, getT_T, cond_true, cond_false, qE0, qE1, qE2, qE3, qE4, qE5, qE6, qE7, qE8, qE9, qE10, qE11, qE12, qE13, qE14, qE15, qE16, qE17, qE18, qE19, qE20, qE21, qE22, qE23, qE24, qE25, qE26, List.getElem?_cons_zero, List.getElem?_cons_succ, listP_r, getL_L, hl, cQ, cN, cL, cM, cG, cH, cX, cY, cR, boolP_b, if_true, bA, bC, bS, bM, bR, rep1_one, bD, bO, bL, bH, bN, bU, bP, intP_i, iX, ixO_L, ixO_T, fnP_f]
  have hw' := hw.hi
  refine ⟨by omega, ?_⟩
  show Q (.int ((((0 + 1 : Nat) : Int) - 1) * (w : Int) + bitLen (x : Int))) h
  have e : ((((0 + 1 : Nat) : Int) - 1) * (w : Int) + bitLen (x : Int)) = bitLen (x : Int) := by simp
  rw [e]; exact K

theorem ev_shl {d i w s a : Nat} {h : Hp} {Q : KV} (hw : WW w) (hs : s < w) (h5 : ro ≤ h.length) (ha : h[i]? = some (.L (nl (dig (2 ^ w) a)))) (la : a < lim) (h0 : 0 < a)
    (K : ∀ h' k, Ext h h' → h.length ≤ k → h'[k]? = some (.L (nl (dig (2 ^ w) (a * 2 ^ s)))) → Q (.ref k) h') : callD prg (d + 1) 100 [.ref i, .int (s : Int), .int (w : Int)] h Q := by
  have p1 : prg 100 = some (3, p_shift_left) := rfl
  have hB := hw.two
  have hT := hw.top
  have hw8 := hw.hi
  have l1 := dig_lim hB la
  have b1 : (400 : Nat) < big := by decide
  have hsB : 2 ^ s < 2 ^ w := Nat.pow_lt_pow_right (by decide) hs
  rw [callD_succ, p1]
  have hne : (dig (2 ^ w) a).length ≠ 0 := by rw [Ne, dig_len0 hB]; omega
  have hne' : ((((dig (2 ^ w) a).length : Nat) : Int) == 0) = false := by simpa using hne
  have ha1 : ∀ o, (h ++ [o])[i]? = some (.L (nl (dig (2 ^ w) a))) := fun o => push_get ha
  have q0 : s / w = 0 := Nat.div_eq_of_lt hs
  have q1 : s % w = s := Nat.mod_eq_of_lt hs
  simp (config := { decide := true }) only [List.length_cons, List.length_nil, true_and, p_shift_left, qSs0, qSs1, nextP_next, nextP_ret, qS0, qS1, qS2, qS3, qS4, qS5, qS6, qS7, qS8, qS9, qS10, qS11, qS12, tupP_r, getT_T, getP_some, cond_true, cond_false, qE0, qE1, qE2, qE3, qE4, qE5, qE6, qE7, qE8, qE9, qE10, qE11, qE12, qE13, qE14, qE15, qE16, qE17, qE18, qE19, qE20, qE21, qE22, qE23, qE24, qE25, qE26, qEs0, qEs1, qTs0, qTs1, qT0, qT1, List.getElem?_cons_zero, List.getElem?_cons_succ, listP_r, getL_L, ha, ha1, nl_len, bA, bC, bS, bM, bR, rep1_one, bD, bO, bL, bH, bN, bU, bP, cQ, cN, cL, cM, cG, cH, cX, cY, cR, boolP_b, hne', if_false, fdiv_nat, fmod_nat, q0, q1, upd, Nat.reduceBEq, if_true, push_last, Int.toNat_natCast, Int.one_mul, List.replicate, endP_ret, endP_next, intP_i, fnP_f]
  refine ⟨⟨by omega, by omega⟩, by omega, ⟨by omega, trivial⟩, ⟨hw.shl.1, hw.shl.2, trivial⟩, ?_⟩
  have hlen : (h ++ [Ob.L [V.int 0]]).length = h.length + 1 := by simp
  rw [hlen]
  have ha2 : ∀ o o', (h ++ [o] ++ [o'])[i]? = some (.L (nl (dig (2 ^ w) a))) := fun o o' => push_get (push_get ha)
  generalize hp : h.length + 1 = p
  have hpl : h.length ≤ p := by omega
  have E2 : ∀ o o', Ext h (h ++ [o] ++ [o']) := fun o o' => (Ext.push _ _).push' _
  have P2 : ∀ o o', (h ++ [o] ++ [o'])[p]? = some o' := fun o o' => by
    have := push_last (h ++ [o]) o'
    rw [show (h ++ [o]).length = p by simp; omega] at this
    exact this
  simp only [ha2]
  generalize hA : dig (2 ^ w) a = A at *
  have vA : val (2 ^ w) A = a := by rw [← hA, val_dig hB]
  have oA : Ok (2 ^ w) A := by rw [← hA]; exact ok_dig hB a
  refine for_list (fun k lo h' => ∃ acc c, lo 2 = some (.int (w : Int)) ∧ lo 4 = some (.int (s : Int)) ∧ lo 5 = some (.ref p) ∧ lo 6 = some (.int ((c : Nat) : Int)) ∧ lo 7 = some (.int ((2 : Int) ^ w - 1)) ∧
      Ext h h' ∧ h'[p]? = some (.L (nl acc)) ∧ acc.length = k ∧ Ok (2 ^ w) acc ∧ c < 2 ^ s ∧ val (2 ^ w) acc + (2 ^ w) ^ k * c = val (2 ^ w) (A.take k) * 2 ^ s) ?_ ?_ ?_ ?_
  · exact ⟨[], 0, rfl, rfl, rfl, rfl, rfl, E2 _ _, P2 _ _, rfl, fun x hx => by simp at hx, Nat.two_pow_pos s, by simp [val]⟩
  · intro k lo h' hI_
    refine ex2 hI_ fun acc c hJ_ => and7 hJ_ fun _ _ _ _ _ hE _ => ?_
    clear hJ_ hI_
    exact hE _ _ ha
  · intro k hk lo h' K' hI nx rr
    refine ex2 hI fun acc c hJ_ => and11 hJ_ fun f2 f4 f5 f6 f7 hE hacc hal hao hc hv => ?_
    clear hJ_ hI
    have xa := ok_get oA hk
    have ta := take_succ_val (2 ^ w) A k hk
    generalize A[k] = x at *
    simp (config := { decide := true }) only [qSs0, qSs1, nextP_next, nextP_ret, qS0, qS1, qS2, qS3, qS4, qS5, qS6, qS7, qS8, qS9, qS10, qS11, qS12, tupP_r, getT_T, getP_some, cond_true, cond_false, qE0, qE1, qE2, qE3, qE4, qE5, qE6, qE7, qE8, qE9, qE10, qE11, qE12, qE13, qE14, qE15, qE16, qE17, qE18, qE19, qE20, qE21, qE22, qE23, qE24, qE25, qE26, qT0, qT1, upd, Nat.reduceBEq, if_true, if_false, f2, f4, f5, f6, f7, bA, bC, bS, bM, bR, rep1_one, bD, bO, bL, bH, bN, bU, bP, getL_L, Int.toNat_natCast, bor_lo c x s hc, Int.natAbs_natCast, endP_ret, endP_next, listP_r, intP_i, boolP_b, fnP_f]
    refine ⟨⟨by omega, by omega, by omega⟩, ⟨_, rfl⟩, (show ro ≤ p by omega), ?_⟩
    simp only [listP_r, getL_L, hacc, band_mask, fdiv_pow, getP_some, nextP_next, nextP_ret, endP_ret, endP_next, cond_true, cond_false, intP_i, boolP_b, fnP_f]
    refine app_nl hacc (by omega) (by omega) ⟨⟨_, rfl⟩, hw.shl.1, ?_⟩
    refine nx _ _ ⟨acc ++ [(c + x * 2 ^ s) % 2 ^ w], (c + x * 2 ^ s) / 2 ^ w, f2, f4, f5, rfl, f7, hE.set hpl, set_self hacc, by simp [hal], ok_append hao (ok_one (Nat.mod_lt _ (by omega))), ?_, ?_⟩
    · rw [Nat.div_lt_iff_lt_mul (by omega)]
      have := Nat.mul_le_mul_right (2 ^ s) (show x + 1 ≤ 2 ^ w by omega)
      rw [Nat.add_mul, Nat.one_mul] at this
      rw [Nat.mul_comm (2 ^ s)]
      omega
    · rw [val_snoc, hal, ta, Nat.pow_succ, Nat.add_mul, Nat.mul_assoc _ x]
      have cs := carry_step ((2 ^ w) ^ k) (2 ^ w) (c + x * 2 ^ s)
      rw [Nat.mul_add _ c] at cs
      omega
  · intro lo h' hI
    refine ex2 hI fun acc c hJ_ => and11 hJ_ fun f2 f4 f5 f6 f7 hE hacc hal hao hc hv => ?_
    clear hJ_ hI
    rw [List.take_length, vA] at hv
    simp (config := { decide := true }) only [qSs0, qSs1, nextP_next, nextP_ret, qS0, qS1, qS2, qS3, qS4, qS5, qS6, qS7, qS8, qS9, qS10, qS11, qS12, tupP_r, getT_T, getP_some, cond_true, cond_false, qE0, qE1, qE2, qE3, qE4, qE5, qE6, qE7, qE8, qE9, qE10, qE11, qE12, qE13, qE14, qE15, qE16, qE17, qE18, qE19, qE20, qE21, qE22, qE23, qE24, qE25, qE26, qT0, qT1, upd, Nat.reduceBEq, if_true, if_false, f2, f4, f5, f6, f7, cQ, cN, cL, cM, cG, cH, cX, cY, cR, boolP_b, getL_L, endP_ret, endP_next, listP_r, intP_i, fnP_f]
    by_cases hc0 : c = 0
    · subst hc0
      rw [decide_eq_false (by omega)]
      simp (config := { decide := true }) only [if_false, cond_false, qSs0, qSs1, nextP_next, nextP_ret, f5, getP_some, getL_L, endP_ret, endP_next, cond_true, listP_r, intP_i, boolP_b, fnP_f]
      refine K _ _ hE hpl ?_
      rw [Nat.mul_zero, Nat.add_zero] at hv
      have : acc = dig (2 ^ w) (a * 2 ^ s) := by
        rw [← hv]
        refine dig_eq hB hao (nrm_of_ge hao fun hne2 => ?_)
        have := dig_ge_len hB h0
        rw [hA] at this
        rw [hal, hv]
        have h1 := Nat.mul_le_mul_left a (show 1 ≤ 2 ^ s from Nat.two_pow_pos s)
        omega
      rw [← this]; exact hacc
    · rw [decide_eq_true (by omega)]
      simp (config := { decide := true }) only [if_true, cond_true, qSs0, qSs1, nextP_next, nextP_ret, qS0, qS1, qS2, qS3, qS4, qS5, qS6, qS7, qS8, qS9, qS10, qS11, qS12, tupP_r, getT_T, getP_some, cond_false, qE0, qE1, qE2, qE3, qE4, qE5, qE6, qE7, qE8, qE9, qE10, qE11, qE12, qE13, qE14, qE15, qE16, qE17, qE18, qE19, qE20, qE21, qE22, qE23, qE24, qE25, qE26, f5, f6, nP, listP_r, getL_L, hacc, endP_ret, endP_next, intP_i, boolP_b, fnP_f]
      refine ⟨by omega, app_nl hacc (by omega) (by omega) ?_⟩
      refine K _ _ (hE.set hpl) hpl ?_
      have : acc ++ [c] = dig (2 ^ w) (a * 2 ^ s) := by
        have e : val (2 ^ w) (acc ++ [c]) = a * 2 ^ s := by rw [val_snoc, hal]; omega
        rw [← e]
        refine dig_eq hB (ok_append hao (ok_one (by omega))) ?_
        simp [Nrm]; exact hc0
      rw [← this]; exact set_self hacc

theorem shr_lemma {x y q e : Nat} (hx : x < q * e) (hq : 0 < q) : (x / q + y * e) % (q * e) = x / q + (y % q) * e := by
  have h1 : y * e = (y % q) * e + (q * e) * (y / q) := by
    have := Nat.mod_add_div y q
    have h2 : (y % q + q * (y / q)) * e = y * e := by rw [this]
    rw [Nat.add_mul] at h2
    rw [← h2]
    congr 1
    rw [Nat.mul_assoc, Nat.mul_assoc, Nat.mul_comm e]
  rw [h1, ← Nat.add_assoc, Nat.add_mul_mod_self_left, Nat.mod_eq_of_lt]
  have h3 : x / q < e := Nat.div_lt_of_lt_mul hx
  have h4 : y % q < q := Nat.mod_lt _ hq
  have h5 := Nat.mul_le_mul_right e (show y % q + 1 ≤ q from h4)
  rw [Nat.add_mul, Nat.one_mul] at h5
  omega

theorem ev_shr {d i w s r : Nat} {h : Hp} {Q : KV} (hw : WW w) (hs : s < w) (h5 : ro ≤ h.length) (ha : h[i]? = some (.L (nl (dig (2 ^ w) (r * 2 ^ s))))) (la : r * 2 ^ s < lim)
    (K : ∀ h' k, Ext h h' → h.length ≤ k → h'[k]? = some (.L (nl (dig (2 ^ w) r))) → Q (.ref k) h') : callD prg (d + 2) 107 [.ref i, .int (s : Int), .int (w : Int)] h Q := by
  have p1 : prg 107 = some (3, p_shift_right) := rfl
  have hB := hw.two
  have hT := hw.top
  have hw8 := hw.hi
  have l1 := dig_lim hB la
  have b1 : (400 : Nat) < big := by decide
  rw [callD_succ, p1]
  have ha1 : ∀ o, (h ++ [o])[i]? = some (.L (nl (dig (2 ^ w) (r * 2 ^ s)))) := fun o => push_get ha
  have q0 : s / w = 0 := Nat.div_eq_of_lt hs
  have q1 : s % w = s := Nat.mod_eq_of_lt hs
  simp (config := { decide := true }) only [List.length_cons, List.length_nil, true_and, p_shift_right, qSs0, qSs1, nextP_next, nextP_ret, qS0, qS1, qS2, qS3, qS4, qS5, qS6, qS7, qS8, qS9, qS10, qS11, qS12, tupP_r, getT_T, getP_some, cond_true, cond_false, qE0, qE1, qE2, qE3, qE4, qE5, qE6, qE7, qE8, qE9, qE10, qE11, qE12, qE13, qE14, qE15, qE16, qE17, qE18, qE19, qE20, qE21, qE22, qE23, qE24, qE25, qE26, qEs0, qEs1, qTs0, qTs1, qT0, qT1, List.getElem?_cons_zero, List.getElem?_cons_succ, listP_r, getL_L, ha, ha1, nl_len, bA, bC, bS, bM, bR, rep1_one, bD, bO, bL, bH, bN, bU, bP, if_false, fdiv_nat, fmod_nat, q0, q1, upd, Nat.reduceBEq, if_true, Int.toNat_natCast, Int.one_mul, intP_i, endP_ret, endP_next, boolP_b, fnP_f]
  refine ⟨⟨by omega, by omega⟩, by omega, ⟨hw.shl.1, hw.shl.2, trivial⟩, ⟨by omega, trivial⟩, ?_⟩
  generalize hA : dig (2 ^ w) (r * 2 ^ s) = A at *
  have vA : val (2 ^ w) A = r * 2 ^ s := by rw [← hA, val_dig hB]
  have oA : Ok (2 ^ w) A := by rw [← hA]; exact ok_dig hB _
  have hq := Nat.two_pow_pos s
  have hBe : 2 ^ w = 2 ^ s * 2 ^ (w - s) := by rw [← Nat.pow_add, Nat.add_sub_cancel' (by omega)]
  refine for_up (fun k lo h' => ∃ acc, lo 0 = some (.ref i) ∧ lo 2 = some (.int (w : Int)) ∧ lo 4 = some (.int (s : Int)) ∧ lo 5 = some (.ref h.length) ∧ lo 6 = some (.int ((2 : Int) ^ w - 1)) ∧
      Ext h h' ∧ h'[h.length]? = some (.L (nl acc)) ∧ acc.length = k ∧ Ok (2 ^ w) acc ∧ 2 ^ s * val (2 ^ w) acc + (A[0]?.getD 0) % 2 ^ s = val (2 ^ w) (A.take k) + (2 ^ w) ^ k * ((A[k]?.getD 0) % 2 ^ s)) A.length ?_ ?_ ?_ ?_
  · unfold rangeN; rw [if_pos rfl]; simp
  · exact ⟨[], rfl, rfl, rfl, rfl, rfl, Ext.push _ _, push_last _ _, rfl, fun x hx => by simp at hx, by simp [val]⟩
  · intro k lo h' K' hk hI nx rr
    refine ex1 hI fun acc hJ_ => and10 hJ_ fun f0 f2 f4 f5 f6 hE hacc hal hao hv => ?_
    clear hJ_ hI
    have xa := ok_get oA hk
    have ta := take_succ_val (2 ^ w) A k hk
    have gx : A[k]?.getD 0 = A[k] := by rw [List.getElem?_eq_getElem hk]; rfl
    rw [gx] at hv
    generalize hgx : A[k] = x at *
    have hxe : x / 2 ^ s < 2 ^ (w - s) := Nat.div_lt_of_lt_mul (by rw [← hBe]; exact xa)
    have e1 : (w : Int) - (s : Int) = ((w - s : Nat) : Int) := by omega
    have tail : ∀ y : Nat, y = A[k + 1]?.getD 0 → y < 2 ^ w → ∀ lo' : Lo, (lo' 0 = lo 0 ∧ lo' 2 = lo 2 ∧ lo' 4 = lo 4 ∧ lo' 5 = lo 5 ∧ lo' 6 = lo 6) →
        appP (.ref h.length) (.int (Builtin.bitAnd (Builtin.bitOr ((x / 2 ^ s : Nat) : Int) ((y : Int) * 2 ^ (w - s))) ((2 : Int) ^ w - 1))) h' fun h6 => K' .next lo' h6 := by
      intro y hy hyB lo' hlo
      obtain ⟨g0, g2, g4, g5, g6⟩ := hlo
      rw [bor_lo _ _ _ hxe, band_mask]
      refine app_nl hacc h5 (by omega) ?_
      refine nx _ _ ⟨acc ++ [(x / 2 ^ s + y * 2 ^ (w - s)) % 2 ^ w], g0.trans f0, g2.trans f2, g4.trans f4, g5.trans f5, g6.trans f6, hE.set (Nat.le_refl _), set_self hacc, by simp [hal], ok_append hao (ok_one (Nat.mod_lt _ (by omega))), ?_⟩
      rw [val_snoc, hal, ta, ← hy, Nat.pow_succ, Nat.mul_add (2 ^ s)]
      have hxl : x < 2 ^ s * 2 ^ (w - s) := by rw [← hBe]; exact xa
      have hout : (x / 2 ^ s + y * 2 ^ (w - s)) % 2 ^ w = x / 2 ^ s + (y % 2 ^ s) * 2 ^ (w - s) := by
        rw [hBe]; exact shr_lemma hxl hq
      rw [hout]
      have h2 : 2 ^ s * (x / 2 ^ s + (y % 2 ^ s) * 2 ^ (w - s)) + x % 2 ^ s = x + 2 ^ w * (y % 2 ^ s) := by
        rw [Nat.mul_add, Nat.mul_comm (y % 2 ^ s), ← Nat.mul_assoc, ← hBe]
        have := Nat.mod_add_div x (2 ^ s)
        omega
      have h3 := congrArg ((2 ^ w) ^ k * ·) h2
      simp only [Nat.mul_add] at h3
      rw [Nat.mul_left_comm (2 ^ s) ((2 ^ w) ^ k), Nat.mul_add (2 ^ s), Nat.mul_add]
      rw [Nat.mul_assoc ((2 ^ w) ^ k) (2 ^ w)]
      omega
    have ixk : ∀ KK : V → Prop, KK (.int (x : Int)) → ixP (.ref i) (.int ((((0 : Nat) : Int)) + (k : Int))) h' KK := fun KK q => ix_nl (hE _ _ ha) (by omega) hk (by rw [hgx]; exact q)
    simp (config := { decide := true }) only [qSs0, qSs1, nextP_next, nextP_ret, qS0, qS1, qS2, qS3, qS4, qS5, qS6, qS7, qS8, qS9, qS10, qS11, qS12, tupP_r, getT_T, getP_some, cond_true, cond_false, qE0, qE1, qE2, qE3, qE4, qE5, qE6, qE7, qE8, qE9, qE10, qE11, qE12, qE13, qE14, qE15, qE16, qE17, qE18, qE19, qE20, qE21, qE22, qE23, qE24, qE25, qE26, qT0, qT1, upd, Nat.reduceBEq, if_true, if_false, f0, f2, f4, f5, f6, bA, bC, bS, bM, bR, rep1_one, bD, bO, bL, bH, bN, bU, bP, getL_L, listP_r, hE _ _ ha, nl_len, cQ, cN, cL, cM, cG, cH, cX, cY, cR, boolP_b, endP_ret, endP_next, intP_i, fnP_f]
    by_cases hk1 : k + 1 < A.length
    · have gy : A[k + 1]?.getD 0 = A[k + 1] := by rw [List.getElem?_eq_getElem hk1]; rfl
      rw [decide_eq_true (by omega)]
      simp (config := { decide := true }) only [if_true, cond_true, getP_some, getL_L, nextP_next, nextP_ret, endP_ret, endP_next, cond_false, listP_r, intP_i, boolP_b, fnP_f]
      refine ix_nl (hE _ _ ha) (by omega) hk1 ?_
      have yb := ok_get oA hk1
      refine ⟨h5, ?_⟩
      simp only [hacc]
      refine ixk _ ?_
      simp only [bA, bC, bS, bM, bR, rep1_one, bD, bO, bL, bH, bN, bU, bP, getL_L, e1, Int.toNat_natCast, fdiv_pow, getP_some, nextP_next, nextP_ret, endP_ret, endP_next, cond_true, cond_false, listP_r, intP_i, boolP_b, fnP_f]
      refine ⟨by omega, ⟨by omega, by omega, by omega⟩, ?_⟩
      exact tail _ gy.symm yb _ ⟨rfl, rfl, rfl, rfl, rfl⟩
    · have gy : A[k + 1]?.getD 0 = 0 := by rw [List.getElem?_eq_none (by omega)]; rfl
      rw [decide_eq_false (by omega)]
      simp (config := { decide := true }) only [if_false, cond_false, getP_some, getL_L, nextP_next, nextP_ret, endP_ret, endP_next, cond_true, listP_r, intP_i, boolP_b, fnP_f]
      refine ⟨h5, ?_⟩
      simp only [hacc]
      refine ixk _ ?_
      simp only [bA, bC, bS, bM, bR, rep1_one, bD, bO, bL, bH, bN, bU, bP, getL_L, e1, Int.toNat_natCast, fdiv_pow, getP_some, nextP_next, nextP_ret, endP_ret, endP_next, cond_true, cond_false, listP_r, intP_i, boolP_b, fnP_f]
      refine ⟨by omega, ⟨by omega, by omega, by first | trivial | omega⟩, ?_⟩
      exact tail 0 gy.symm (by omega) _ ⟨rfl, rfl, rfl, rfl, rfl⟩
  · intro lo h' hI
    refine ex1 hI fun acc hJ_ => and10 hJ_ fun f0 f2 f4 f5 f6 hE hacc hal hao hv => ?_
    clear hJ_ hI
    rw [List.take_length, vA, List.getElem?_eq_none (Nat.le_refl _)] at hv
    simp (config := { decide := true }) only [qSs0, qSs1, nextP_next, nextP_ret, qS0, qS1, qS2, qS3, qS4, qS5, qS6, qS7, qS8, qS9, qS10, qS11, qS12, tupP_r, getT_T, getP_some, cond_true, cond_false, qE0, qE1, qE2, qE3, qE4, qE5, qE6, qE7, qE8, qE9, qE10, qE11, qE12, qE13, qE14, qE15, qE16, qE17, qE18, qE19, qE20, qE21, qE22, qE23, qE24, qE25, qE26, qEs0, qEs1, f5, fnP_f, getL_L, endP_ret, endP_next, listP_r, intP_i, boolP_b]
    refine ev_normal hB hao hacc ?_
    have e : val (2 ^ w) acc = r := by
      simp only [Option.getD_none, Nat.zero_mod, Nat.mul_zero, Nat.add_zero] at hv
      have hz : (A[0]?.getD 0) % 2 ^ s < 2 ^ s := Nat.mod_lt _ hq
      generalize (A[0]?.getD 0) % 2 ^ s = z at *
      have h1 : (2 ^ s * val (2 ^ w) acc + z) / 2 ^ s = r * 2 ^ s / 2 ^ s := by rw [hv]
      rw [Nat.mul_add_div hq, Nat.div_eq_of_lt hz, Nat.mul_div_cancel _ hq] at h1
      omega
    rw [e]
    exact K _ _ (hE.push' _) hE.len (push_last _ _)
end Mine

set_option linter.unusedVariables false
set_option linter.unusedSimpArgs false
set_option autoImplicit false
namespace Mine
open PySem

theorem ev_divlimb {d i w a m : Nat} {h : Hp} {Q : KV} (hw : WW w) (h5 : ro ≤ h.length) (ha : h[i]? = some (.L (nl (dig (2 ^ w) a)))) (la : a < lim) (hm0 : 0 < m) (hm : m < 2 ^ w)
    (K : ∀ h' k q, Ext h h' → h.length ≤ k → h.length ≤ q → h'[k]? = some (.T [.ref q, .int ((a % m : Nat) : Int)]) → h'[q]? = some (.L (nl (dig (2 ^ w) (a / m)))) → Q (.ref k) h') : callD prg (d + 2) 93 [.ref i, .int (m : Int), .int (w : Int)] h Q := by
  have p1 : prg 93 = some (3, p_divrem_limb) := rfl
  have hB := hw.two
  have hT := hw.top
  have hw8 := hw.hi
  have l1 := dig_lim hB la
  have b1 : (400 : Nat) < big := by decide
  rw [callD_succ, p1]
  have hne' : ((m : Int) == 0) = false := by simp; omega
  have ha1 : ∀ o, (h ++ [o])[i]? = some (.L (nl (dig (2 ^ w) a))) := fun o => push_get ha
  have ha2 : ∀ o o', (h ++ [o] ++ [o'])[i]? = some (.L (nl (dig (2 ^ w) a))) := fun o o' => push_get (push_get ha)
  simp (config := { decide := true }) only [List.length_cons, List.length_nil, true_and, p_divrem_limb, qSs0, qSs1, nextP_next, nextP_ret, qS0, qS1, qS2, qS3, qS4, qS5, qS6, qS7, qS8, qS9, qS10, qS11, qS12, tupP_r, getT_T, getP_some, cond_true, cond_false, qE0, qE1, qE2, qE3, qE4, qE5, qE6, qE7, qE8, qE9, qE10, qE11, qE12, qE13, qE14, qE15, qE16, qE17, qE18, qE19, qE20, qE21, qE22, qE23, qE24, qE25, qE26, qEs0, qEs1, qTs0, qTs1, qT0, qT1, List.getElem?_cons_zero, List.getElem?_cons_succ, listP_r, getL_L, ha, ha1, ha2, nl_len, bA, bC, bS, bM, bR, rep1_one, bD, bO, bL, bH, bN, bU, bP, cQ, cN, cL, cM, cG, cH, cX, cY, cR, boolP_b, hne', if_false, upd, Nat.reduceBEq, if_true, push_last, Int.toNat_natCast, rep_nl, intP_i, endP_ret, endP_next, fnP_f]
  have hlen : (h ++ [Ob.L [V.int 0]]).length = h.length + 1 := by simp
  rw [hlen]
  generalize hp : h.length + 1 = p
  have hpl : h.length ≤ p := by omega
  have E2 : ∀ o o', Ext h (h ++ [o] ++ [o']) := fun o o' => (Ext.push _ _).push' _
  have P2 : ∀ o o', (h ++ [o] ++ [o'])[p]? = some o' := fun o o' => by
    have := push_last (h ++ [o]) o'
    rw [show (h ++ [o]).length = p by simp; omega] at this
    exact this
  refine ⟨⟨by omega, by omega, by omega⟩, ⟨by omega, trivial⟩, ?_⟩
  generalize hA : dig (2 ^ w) a = A at *
  have vA : val (2 ^ w) A = a := by rw [← hA, val_dig hB]
  have oA : Ok (2 ^ w) A := by rw [← hA]; exact ok_dig hB a
  refine for_down (fun k lo h' => ∃ acc r, lo 0 = some (.ref i) ∧ lo 1 = some (.int (m : Int)) ∧ lo 2 = some (.int (w : Int)) ∧ lo 3 = some (.ref p) ∧ lo 4 = some (.int ((r : Nat) : Int)) ∧
      Ext h h' ∧ h'[p]? = some (.L (nl acc)) ∧ acc.length = A.length ∧ Ok (2 ^ w) acc ∧ r < m ∧ m * val (2 ^ w) (acc.drop (A.length - k)) + r = val (2 ^ w) (A.drop (A.length - k))) A.length rfl rfl ?_ ?_ ?_
  · exact ⟨List.replicate A.length 0, 0, rfl, rfl, rfl, rfl, rfl, E2 _ _, P2 _ _, by simp, ok_zeros (by omega), hm0, by simp [val]⟩
  · intro k lo h' K' hk hI nx rr
    refine ex2 hI fun acc r hJ_ => and11 hJ_ fun f0 f1 f2 f3 f4 hE hacc hal hao hr hv => ?_
    clear hJ_ hI
    have hi : A.length - 1 - k < A.length := by omega
    have e1 : A.length - k = (A.length - 1 - k) + 1 := by omega
    have e2 : A.length - (k + 1) = A.length - 1 - k := by omega
    rw [e1] at hv
    rw [e2] at nx
    generalize A.length - 1 - k = idx at *
    have xa := ok_get oA hi
    have da : A.drop idx = A[idx] :: A.drop (idx + 1) := List.drop_eq_getElem_cons hi
    simp (config := { decide := true }) only [qSs0, qSs1, nextP_next, nextP_ret, qS0, qS1, qS2, qS3, qS4, qS5, qS6, qS7, qS8, qS9, qS10, qS11, qS12, tupP_r, getT_T, getP_some, cond_true, cond_false, qE0, qE1, qE2, qE3, qE4, qE5, qE6, qE7, qE8, qE9, qE10, qE11, qE12, qE13, qE14, qE15, qE16, qE17, qE18, qE19, qE20, qE21, qE22, qE23, qE24, qE25, qE26, qT0, qT1, upd, Nat.reduceBEq, if_true, if_false, f0, f1, f2, f3, f4, bA, bC, bS, bM, bR, rep1_one, bD, bO, bL, bH, bN, bU, bP, getL_L, Int.toNat_natCast, Int.natAbs_natCast, endP_ret, endP_next, listP_r, intP_i, boolP_b, fnP_f]
    refine ⟨⟨by omega, by omega, by omega⟩, ?_⟩
    refine ix_nl (hE _ _ ha) rfl hi ?_
    generalize A[idx] = x at *
    simp only [bA, bC, bS, bM, bR, rep1_one, bD, bO, bL, bH, bN, bU, bP, getL_L, bor_hi x r w xa, fdiv_nat, fmod_nat, Int.natAbs_natCast, getP_some, getT_T, nextP_next, nextP_ret, endP_ret, endP_next, cond_true, cond_false, listP_r, tupP_r, intP_i, boolP_b, fnP_f]
    refine ⟨⟨by omega, by omega⟩, ?_⟩
    have hi' : idx < acc.length := by omega
    refine set_nl hacc (by omega) rfl hi' ?_
    have ht : r * 2 ^ w + x < m * 2 ^ w := by
      have := Nat.mul_le_mul_right (2 ^ w) (show r + 1 ≤ m from hr)
      rw [Nat.add_mul, Nat.one_mul] at this
      omega
    refine ⟨⟨_, rfl⟩, by omega, nx _ _ ⟨acc.set idx ((r * 2 ^ w + x) / m), (r * 2 ^ w + x) % m, f0, f1, f2, f3, rfl, hE.set hpl, set_self hacc, by simp [hal], ok_set hao _ _ (Nat.div_lt_of_lt_mul ht), Nat.mod_lt _ hm0, ?_⟩⟩
    have hi2 : idx < (acc.set idx ((r * 2 ^ w + x) / m)).length := by simp; omega
    rw [da, List.drop_eq_getElem_cons hi2, List.getElem_set_self, List.drop_set_of_lt (by omega), val, val]
    have h3 := Nat.mod_add_div (r * 2 ^ w + x) m
    rw [← hv, Nat.mul_add m, Nat.mul_add (2 ^ w), Nat.mul_comm (2 ^ w) r, Nat.mul_left_comm m (2 ^ w)]
    omega
  · intro lo h' hI
    refine ex2 hI fun acc r hJ_ => and11 hJ_ fun f0 f1 f2 f3 f4 hE hacc hal hao hr hv => ?_
    clear hJ_ hI
    rw [Nat.sub_self, List.drop_zero, List.drop_zero, vA] at hv
    simp (config := { decide := true }) only [qSs0, qSs1, nextP_next, nextP_ret, qS0, qS1, qS2, qS3, qS4, qS5, qS6, qS7, qS8, qS9, qS10, qS11, qS12, tupP_r, getT_T, getP_some, cond_true, cond_false, qE0, qE1, qE2, qE3, qE4, qE5, qE6, qE7, qE8, qE9, qE10, qE11, qE12, qE13, qE14, qE15, qE16, qE17, qE18, qE19, qE20, qE21, qE22, qE23, qE24, qE25, qE26, qEs0, qEs1, f3, f4, fnP_f, getL_L, endP_ret, endP_next, listP_r, intP_i, boolP_b]
    refine ev_normal hB hao hacc ?_
    have e1 : val (2 ^ w) acc = a / m := by
      rw [← hv, Nat.mul_add_div hm0, Nat.div_eq_of_lt hr, Nat.add_zero]
    have e2 : r = a % m := by
      rw [← hv, Nat.mul_add_mod, Nat.mod_eq_of_lt hr]
    rw [e1, e2]
    refine K _ _ h'.length ((hE.push' _).push' _) ?_ hE.len (push_last _ _) (push_get (push_last _ _))
    have := hE.len
    simp; omega

theorem ev_divsmall {d i j w a m : Nat} {h : Hp} {Q : KV} (hw : WW w) (h5 : ro ≤ h.length) (ha : h[i]? = some (.L (nl (dig (2 ^ w) a)))) (hb : h[j]? = some (.L (nl [m]))) (la : a < lim) (hm0 : 0 < m) (hm : m < 2 ^ w)
    (K : ∀ h' k q r, Ext h h' → h.length ≤ k → h.length ≤ q → h.length ≤ r → h'[k]? = some (.T [.ref q, .ref r]) → h'[q]? = some (.L (nl (dig (2 ^ w) (a / m)))) → h'[r]? = some (.L (nl (dig (2 ^ w) (a % m)))) → Q (.ref k) h') : callD prg (d + 3) 219 [.ref i, .ref j, .int (w : Int)] h Q := by
  have p1 : prg 219 = some (3, p_divrem_small) := rfl
  have hB := hw.two
  rw [callD_succ, p1]
  simp (config := { decide := true }) only [List.length_cons, List.length_nil, true_and, p_divrem_small, qSs0, qSs1, nextP_next, nextP_ret, qS0, qS1, qS2, qS3, qS4, qS5, qS6, qS7, qS8, qS9, qS10, qS11, qS12, tupP_r, getT_T, getP_some, cond_true, cond_false, qE0, qE1, qE2, qE3, qE4, qE5, qE6, qE7, qE8, qE9, qE10, qE11, qE12, qE13, qE14, qE15, qE16, qE17, qE18, qE19, qE20, qE21, qE22, qE23, qE24, qE25, qE26, qEs0, qEs1, List.getElem?_cons_zero, List.getElem?_cons_succ, fnP_f, List.map, getL_L, endP_ret, endP_next, listP_r, intP_i, boolP_b]
  refine ix_nl (idx := 0) hb rfl (by simp) ?_
  simp only [List.getElem_cons_zero]
  refine ev_divlimb hw h5 ha la hm0 hm fun h' k q hE hk hqge hkk hq => ?_
  simp (config := { decide := true }) only [hkk, qTs0, qTs1, qT0, qT1, qE0, qE1, qE2, qE3, qE4, qE5, qE6, qE7, qE8, qE9, qE10, qE11, qE12, qE13, qE14, qE15, qE16, qE17, qE18, qE19, qE20, qE21, qE22, qE23, qE24, qE25, qE26, getP_some, qEs0, qEs1, upd, Nat.reduceBEq, cond_true, cond_false, if_true, if_false, cQ, cN, cL, cM, cG, cH, cX, cY, cR, boolP_b, getL_L, getT_T, nextP_next, nextP_ret, endP_ret, endP_next, listP_r, tupP_r, intP_i, fnP_f]
  by_cases h0 : a % m = 0
  · rw [decide_eq_false (by omega)]
    simp (config := { decide := true }) only [if_false, cond_false, getP_some, getL_L, getT_T, nextP_next, nextP_ret, endP_ret, endP_next, cond_true, listP_r, tupP_r, intP_i, boolP_b, fnP_f]
    refine K _ _ q h'.length ((hE.push' _).push' _) ?_ hqge hE.len (push_last _ _) (push_get (push_get hq)) (push_get ?_)
    · have := hE.len; simp; omega
    · rw [h0, dig_zero]; exact push_last _ _
  · rw [decide_eq_true (by omega)]
    simp (config := { decide := true }) only [if_true, cond_true, getP_some, getL_L, getT_T, nextP_next, nextP_ret, endP_ret, endP_next, cond_false, listP_r, tupP_r, intP_i, boolP_b, fnP_f]
    refine K _ _ q h'.length ((hE.push' _).push' _) ?_ hqge hE.len (push_last _ _) (push_get (push_get hq)) (push_get ?_)
    · have := hE.len; simp; omega
    · rw [dig_small hB (by omega) (Nat.lt_trans (Nat.mod_lt _ hm0) hm)]; exact push_last _ _

theorem ev_guess {d i w u0 u1 u2 v1 v2 : Nat} {h : Hp} {Q : KV} (hw : WW w) (hl : h[i]? = some (.L (nl [u0, u1, u2]))) (h0 : u0 < 2 ^ w) (h1 : u1 < 2 ^ w) (h2 : u2 < 2 ^ w) (hv1 : 0 < v1) (hv1' : v1 < 2 ^ w) (hv2 : v2 < 2 ^ w)
    (K : ∀ q, q < 2 ^ w → q * (v2 + 2 ^ w * v1) ≤ u0 + 2 ^ w * (u1 + 2 ^ w * u2) → (∀ x, x < 2 ^ w → x * (v2 + 2 ^ w * v1) ≤ u0 + 2 ^ w * (u1 + 2 ^ w * u2) → x ≤ q) → Q (.int (q : Nat)) h) :
    callD prg (d + 1) 226 [.ref i, .int (v1 : Int), .int (v2 : Int), .int (w : Int)] h Q := by
  have p1 : prg 226 = some (4, p_guessed_limb) := rfl
  have hB := hw.two
  have hT := hw.top
  have hw8 := hw.hi
  rw [callD_succ, p1]
  simp (config := { decide := true }) only [List.length_cons, List.length_nil, true_and, p_guessed_limb, qSs0, qSs1, nextP_next, nextP_ret, qS0, qS1, qS2, qS3, qS4, qS5, qS6, qS7, qS8, qS9, qS10, qS11, qS12, tupP_r, getT_T, getP_some, cond_true, cond_false, qE0, qE1, qE2, qE3, qE4, qE5, qE6, qE7, qE8, qE9, qE10, qE11, qE12, qE13, qE14, qE15, qE16, qE17, qE18, qE19, qE20, qE21, qE22, qE23, qE24, qE25, qE26, qEs0, qEs1, qTs0, qTs1, qT0, qT1, List.getElem?_cons_zero, List.getElem?_cons_succ, getL_L, endP_ret, endP_next, listP_r, intP_i, boolP_b, fnP_f]
  refine ix_nl (idx := 2) hl rfl (by simp) ?_
  simp only [bA, bC, bS, bM, bR, rep1_one, bD, bO, bL, bH, bN, bU, bP, getL_L, Int.toNat_natCast, List.getElem_cons_succ, List.getElem_cons_zero, Int.natAbs_natCast, getP_some, getT_T, nextP_next, nextP_ret, endP_ret, endP_next, cond_true, cond_false, listP_r, tupP_r, intP_i, boolP_b, fnP_f]
  refine ⟨⟨by omega, by omega, by omega⟩, ?_⟩
  refine ix_nl (idx := 1) hl rfl (by simp) ?_
  have hpw : (1 : Int) * (2 : Int) ^ w = ((2 ^ w : Nat) : Int) := by rw [Int.natCast_pow, Int.one_mul]; rfl
  have hpm : ((2 ^ w : Nat) : Int) - 1 = ((2 ^ w - 1 : Nat) : Int) := by omega
  simp (config := { decide := true }) only [bA, bC, bS, bM, bR, rep1_one, bD, bO, bL, bH, bN, bU, bP, getL_L, Int.toNat_natCast, List.getElem_cons_succ, List.getElem_cons_zero, bor_hi u1 u2 w h1, upd, Nat.reduceBEq, cond_true, cond_false, if_true, if_false, fdiv_nat, Int.natAbs_natCast, intP_i, hpw, hpm, getP_some, getT_T, nextP_next, nextP_ret, endP_ret, endP_next, listP_r, tupP_r, boolP_b, fnP_f]
  generalize htop : u2 * 2 ^ w + u1 = top
  have hTT : u0 + 2 ^ w * (u1 + 2 ^ w * u2) = top * 2 ^ w + u0 := by
    rw [← htop, Nat.mul_comm u2, Nat.add_comm (2 ^ w * u2), Nat.mul_comm (2 ^ w) (u1 + _)]; omega
  rw [hTT] at K
  refine ⟨⟨by omega, by omega, trivial⟩, ⟨by omega, by omega⟩, ?_⟩
  have hq0 : ∃ q : Nat, (if ((2 ^ w - 1 : Nat) : Int) < ((top / v1 : Nat) : Int) then ((2 ^ w - 1 : Nat) : Int) else ((top / v1 : Nat) : Int)) = (q : Int) ∧ q < 2 ^ w ∧ q * v1 ≤ top ∧ ∀ x, x < 2 ^ w → x * (v2 + 2 ^ w * v1) ≤ top * 2 ^ w + u0 → x ≤ q := by
    have hmax : ∀ x, x * (v2 + 2 ^ w * v1) ≤ top * 2 ^ w + u0 → x ≤ top / v1 := by
      intro x hx
      rw [Nat.le_div_iff_mul_le hv1]
      rw [Nat.mul_add] at hx
      have h3 : x * (2 ^ w * v1) = (x * v1) * 2 ^ w := by rw [Nat.mul_left_comm, Nat.mul_comm]
      rw [h3] at hx
      by_cases hc : x * v1 ≤ top
      · exact hc
      · have := Nat.mul_le_mul_right (2 ^ w) (show top + 1 ≤ x * v1 by omega)
        rw [Nat.add_mul, Nat.one_mul] at this
        omega
    have hdm := Nat.div_mul_le_self top v1
    by_cases hc : 2 ^ w - 1 < top / v1
    · refine ⟨2 ^ w - 1, by rw [if_pos (by omega)], by omega, ?_, fun x hx _ => by omega⟩
      have := Nat.mul_le_mul_right v1 (Nat.le_of_lt hc)
      omega
    · exact ⟨top / v1, by rw [if_neg (by omega)], by omega, hdm, fun x _ hx => hmax x hx⟩
  obtain ⟨q, eq, hq1, hq2, hq3⟩ := hq0
  simp (config := { decide := true }) only [bA, bC, bS, bM, bR, rep1_one, bD, bO, bL, bH, bN, bU, bP, getL_L, intP_i, List.getElem?_cons_zero, List.getElem?_cons_succ, fdiv_nat, eq, Int.natAbs_natCast, getP_some, getT_T, nextP_next, nextP_ret, endP_ret, endP_next, cond_true, cond_false, listP_r, tupP_r, boolP_b, fnP_f]
  have e1 : (top : Int) - (q : Int) * (v1 : Int) = ((top - q * v1 : Nat) : Int) := by
    rw [Int.natCast_sub hq2, Int.natCast_mul]
  rw [e1]
  refine ⟨⟨by omega, by omega⟩, ?_⟩
  refine while_inv (fun m lo h' => ∃ r : Nat, lo 0 = some (.ref i) ∧ lo 1 = some (.int (v1 : Int)) ∧ lo 2 = some (.int (v2 : Int)) ∧ lo 3 = some (.int (w : Int)) ∧ lo 5 = some (.int ((2 ^ w : Nat) : Int)) ∧ lo 6 = some (.int (m : Int)) ∧ lo 7 = some (.int (r : Int)) ∧
      h' = h ∧ m < 2 ^ w ∧ m * v1 + r = top ∧ ∀ x, x < 2 ^ w → x * (v2 + 2 ^ w * v1) ≤ top * 2 ^ w + u0 → x ≤ m) ?_ q _ _ ⟨top - q * v1, rfl, rfl, rfl, rfl, rfl, rfl, rfl, rfl, hq1, by omega, hq3⟩
  intro m lo h' hI_
  refine ex1 hI_ fun r hJ_ => and11 hJ_ fun f0 f1 f2 f3 f5 f6 f7 hE7_ hm hmr hmx => ?_
  clear hJ_ hI_
  subst hE7_
  have hsp : m * (v2 + 2 ^ w * v1) = m * v2 + (m * v1) * 2 ^ w := by rw [Nat.mul_add, Nat.mul_left_comm, Nat.mul_comm (2 ^ w)]
  have htb : top * 2 ^ w = (m * v1) * 2 ^ w + r * 2 ^ w := by rw [← hmr, Nat.add_mul]
  have fin : m * (v2 + 2 ^ w * v1) ≤ top * 2 ^ w + u0 → (getP (lo 6) fun v => Q v h') := fun hle => by
    rw [f6]
    exact K m hm hle hmx
  by_cases hr : r < 2 ^ w
  · have ixt : ∀ KK : V → Prop, KK (.int (u0 : Int)) → ixP (.ref i) (.int 0) h' KK := fun KK k => ix_nl (idx := 0) hl rfl (by simp) k
    by_cases ht : r * 2 ^ w + u0 < m * v2
    · refine ⟨true, fun K1 k => ?_, fun _ K' nx => ?_, fun e => (by cases e)⟩
      · simp only [f5, f7, cQ, cN, cL, cM, cG, cH, cX, cY, cR, boolP_b, getP_some, getL_L, getT_T, nextP_next, nextP_ret, endP_ret, endP_next, cond_true, cond_false, listP_r, tupP_r, intP_i, fnP_f]
        rw [decide_eq_true (by omega)]
        simp only [if_true, cond_true, f0, f2, f3, f6, f7, bA, bC, bS, bM, bR, rep1_one, bD, bO, bL, bH, bN, bU, bP, getL_L, Int.natAbs_natCast, Int.toNat_natCast, getP_some, getT_T, nextP_next, nextP_ret, endP_ret, endP_next, cond_false, listP_r, tupP_r, intP_i, boolP_b, fnP_f]
        refine ⟨⟨by omega, by omega⟩, ⟨by omega, by omega, by omega⟩, ixt _ ?_⟩
        simp only [bA, bC, bS, bM, bR, rep1_one, bD, bO, bL, bH, bN, bU, bP, getL_L, bor_hi u0 r w h0, cQ, cN, cL, cM, cG, cH, cX, cY, cR, boolP_b, getP_some, getT_T, nextP_next, nextP_ret, endP_ret, endP_next, cond_true, cond_false, listP_r, tupP_r, intP_i, fnP_f]
        rw [decide_eq_true (by rw [← Int.natCast_mul]; omega)]
        exact k
      · have hm0 : 0 < m := by
          rcases Nat.eq_zero_or_pos m with h | h
          · rw [h] at ht; omega
          · exact h
        simp (config := { decide := true }) only [qSs0, qSs1, nextP_next, nextP_ret, qS0, qS1, qS2, qS3, qS4, qS5, qS6, qS7, qS8, qS9, qS10, qS11, qS12, tupP_r, getT_T, getP_some, cond_true, cond_false, qE0, qE1, qE2, qE3, qE4, qE5, qE6, qE7, qE8, qE9, qE10, qE11, qE12, qE13, qE14, qE15, qE16, qE17, qE18, qE19, qE20, qE21, qE22, qE23, qE24, qE25, qE26, f6, f7, f1, bA, bC, bS, bM, bR, rep1_one, bD, bO, bL, bH, bN, bU, bP, getL_L, upd, Nat.reduceBEq, if_true, if_false, endP_ret, endP_next, listP_r, intP_i, boolP_b, fnP_f]
        refine ⟨⟨_, rfl⟩, ⟨_, rfl⟩, nx (m - 1) _ _ (by omega) ⟨r + v1, f0, f1, f2, f3, f5, by simp [upd]; omega, rfl, rfl, by omega, ?_, ?_⟩⟩
        · have : m * v1 = (m - 1) * v1 + v1 := by
            obtain ⟨t, rfl⟩ : ∃ t, m = t + 1 := ⟨m - 1, by omega⟩
            rw [Nat.add_mul, Nat.one_mul]; simp
          omega
        · intro x hx hxx
          have h3 := hmx x hx hxx
          have : x ≠ m := by
            rintro rfl
            rw [hsp] at hxx
            omega
          omega
    · refine ⟨false, fun K1 k => ?_, fun e => (by cases e), fun _ => fin (by omega)⟩
      simp only [f5, f7, cQ, cN, cL, cM, cG, cH, cX, cY, cR, boolP_b, getP_some, getL_L, getT_T, nextP_next, nextP_ret, endP_ret, endP_next, cond_true, cond_false, listP_r, tupP_r, intP_i, fnP_f]
      rw [decide_eq_true (by omega)]
      simp only [if_true, cond_true, f0, f2, f3, f6, f7, bA, bC, bS, bM, bR, rep1_one, bD, bO, bL, bH, bN, bU, bP, getL_L, Int.natAbs_natCast, Int.toNat_natCast, getP_some, getT_T, nextP_next, nextP_ret, endP_ret, endP_next, cond_false, listP_r, tupP_r, intP_i, boolP_b, fnP_f]
      refine ⟨⟨by omega, by omega⟩, ⟨by omega, by omega, by omega⟩, ixt _ ?_⟩
      simp only [bA, bC, bS, bM, bR, rep1_one, bD, bO, bL, bH, bN, bU, bP, getL_L, bor_hi u0 r w h0, cQ, cN, cL, cM, cG, cH, cX, cY, cR, boolP_b, getP_some, getT_T, nextP_next, nextP_ret, endP_ret, endP_next, cond_true, cond_false, listP_r, tupP_r, intP_i, fnP_f]
      rw [decide_eq_false (by rw [← Int.natCast_mul]; omega)]
      exact k
  · refine ⟨false, fun K1 k => ?_, fun e => (by cases e), fun _ => fin ?_⟩
    · simp only [f5, f7, cQ, cN, cL, cM, cG, cH, cX, cY, cR, boolP_b, getP_some, getL_L, getT_T, nextP_next, nextP_ret, endP_ret, endP_next, cond_true, cond_false, listP_r, tupP_r, intP_i, fnP_f]
      rw [decide_eq_false (by omega)]
      simpa using k
    · have h3 := Nat.mul_le_mul (Nat.le_of_lt hm) (Nat.le_of_lt hv2)
      have h4 := Nat.mul_le_mul_right (2 ^ w) (Nat.not_lt.mp hr)
      omega
end Mine

set_option linter.unusedVariables false
set_option linter.unusedSimpArgs false
set_option autoImplicit false
namespace Mine
open PySem

theorem set_same {h : Hp} {i : Nat} {o : Ob} (e : h[i]? = some o) : h.set i o = h := by
  apply List.ext_getElem?
  intro j
  by_cases hj : i = j
  · subst hj; rw [set_self e, e]
  · rw [List.getElem?_set_ne hj]
theorem take_drop_lt {B : Nat} {u : List Nat} {k : Nat} (hk : k ≤ u.length) (ho : Ok B u) (hz : val B (u.drop k) = 0) : val B u < B ^ k := by
  have := val_take_drop B u k hk
  rw [hz, Nat.mul_zero, Nat.add_zero] at this
  rw [this]
  have h := val_lt (ok_take ho k)
  rwa [List.length_take, Nat.min_eq_left hk] at h

theorem ta_bound {B q v c : Nat} (hB : 2 ≤ B) (hq : q < B) (hv : v < B) (hc : c ≤ B) : (q * v + c) / B + 1 ≤ B := by
  obtain ⟨m, rfl⟩ : ∃ m, B = m + 1 := ⟨B - 1, by omega⟩
  have h1 := Nat.mul_le_mul (show q ≤ m by omega) (show v ≤ m by omega)
  have h2 : (q * v + c) / (m + 1) < m + 1 := by
    rw [Nat.div_lt_iff_lt_mul (by omega), Nat.add_mul, Nat.mul_add, Nat.mul_one, Nat.one_mul]
    omega
  omega

theorem ev_takeaway {d i jv w q j : Nat} {u v : List Nat} {h : Hp} {Q : KV} (hw : WW w) (hij : i ≠ jv) (h5 : ro ≤ i) (hu : h[i]? = some (.L (nl u))) (hv : h[jv]? = some (.L (nl v)))
    (ou : Ok (2 ^ w) u) (ov : Ok (2 ^ w) v) (hq : q < 2 ^ w) (hj : j + v.length < u.length)
    (K : ∀ u' br, br ≤ 1 → Ok (2 ^ w) u' → u'.length = u.length → u'.drop (j + v.length + 1) = u.drop (j + v.length + 1) → val (2 ^ w) u' + q * val (2 ^ w) v * (2 ^ w) ^ j = val (2 ^ w) u + (2 ^ w) ^ (j + v.length + 1) * br →
      Q (.int (br : Nat)) (h.set i (.L (nl u')))) : callD prg (d + 1) 233 [.ref i, .ref jv, .int (q : Int), .int (j : Int), .int (w : Int)] h Q := by
  have p1 : prg 233 = some (5, p_take_away) := rfl
  have hB := hw.two
  have hT := hw.top
  have hw8 := hw.hi
  rw [callD_succ, p1]
  have hpw : (1 : Int) * (2 : Int) ^ w = ((2 ^ w : Nat) : Int) := by rw [Int.natCast_pow, Int.one_mul]; rfl
  simp (config := { decide := true }) only [List.length_cons, List.length_nil, true_and, p_take_away, qSs0, qSs1, nextP_next, nextP_ret, qS0, qS1, qS2, qS3, qS4, qS5, qS6, qS7, qS8, qS9, qS10, qS11, qS12, tupP_r, getT_T, getP_some, cond_true, cond_false, qE0, qE1, qE2, qE3, qE4, qE5, qE6, qE7, qE8, qE9, qE10, qE11, qE12, qE13, qE14, qE15, qE16, qE17, qE18, qE19, qE20, qE21, qE22, qE23, qE24, qE25, qE26, qEs0, qEs1, qTs0, qTs1, qT0, qT1, List.getElem?_cons_zero, List.getElem?_cons_succ, bA, bC, bS, bM, bR, rep1_one, bD, bO, bL, bH, bN, bU, bP, getL_L, Int.toNat_natCast, hpw, upd, Nat.reduceBEq, if_true, if_false, listP_r, hv, endP_ret, endP_next, intP_i, boolP_b, fnP_f]
  refine ⟨⟨by omega, by omega, trivial⟩, ?_⟩
  have hvs : ∀ o, (h.set i o)[jv]? = some (.L (nl v)) := fun o => set_ne hv hij
  have hus : ∀ o, (h.set i o)[i]? = some o := fun o => set_self hu
  refine for_enum (fun k lo h' => ∃ u' c, lo 0 = some (.ref i) ∧ lo 1 = some (.ref jv) ∧ lo 2 = some (.int (q : Int)) ∧ lo 3 = some (.int (j : Int)) ∧ lo 5 = some (.int ((c : Nat) : Int)) ∧ lo 6 = some (.int ((2 ^ w : Nat) : Int)) ∧
      h' = h.set i (.L (nl u')) ∧ c ≤ 2 ^ w ∧ Ok (2 ^ w) u' ∧ u'.length = u.length ∧ u'.drop (j + v.length + 1) = u.drop (j + v.length + 1) ∧
      val (2 ^ w) u' + q * val (2 ^ w) (v.take k) * (2 ^ w) ^ j = val (2 ^ w) u + (2 ^ w) ^ (j + k) * c) ?_ ?_ ?_ ?_
  · refine ⟨u, 0, rfl, rfl, rfl, rfl, rfl, rfl, ?_, by omega, ou, rfl, rfl, by simp [val]⟩
    exact (set_same hu).symm
  · intro k lo h' hI_
    refine ex2 hI_ fun u' c hJ_ => and8 hJ_ fun _ _ _ _ _ _ hE6_ _ => ?_
    clear hJ_ hI_
    subst hE6_
    exact hvs _
  · intro k hk lo h' K' hI_ nx rr
    refine ex2 hI_ fun u' c hJ_ => and12 hJ_ fun f0 f1 f2 f3 f5 f6 hE6_ hc ou' hl hd hval => ?_
    clear hJ_ hI_
    subst hE6_
    have yb := ok_get ov hk
    have tb := take_succ_val (2 ^ w) v k hk
    generalize v[k] = y at *
    have hi : j + k < u'.length := by omega
    have hm := ta_bound hB hq yb hc
    have ecast : (q : Int) * (y : Int) + (c : Int) = ((q * y + c : Nat) : Int) := by rw [Int.natCast_add, Int.natCast_mul]
    simp (config := { decide := true }) only [qSs0, qSs1, nextP_next, nextP_ret, qS0, qS1, qS2, qS3, qS4, qS5, qS6, qS7, qS8, qS9, qS10, qS11, qS12, tupP_r, getT_T, getP_some, cond_true, cond_false, qE0, qE1, qE2, qE3, qE4, qE5, qE6, qE7, qE8, qE9, qE10, qE11, qE12, qE13, qE14, qE15, qE16, qE17, qE18, qE19, qE20, qE21, qE22, qE23, qE24, qE25, qE26, qT0, qT1, upd, Nat.reduceBEq, if_true, if_false, f0, f1, f2, f3, f5, f6, bA, bC, bS, bM, bR, rep1_one, bD, bO, bL, bH, bN, bU, bP, getL_L, endP_ret, endP_next, listP_r, intP_i, boolP_b, fnP_f]
    refine ix_nl (hus _) (by omega) hi ?_
    have vs := fun z => val_set (2 ^ w) u' (j + k) z hi
    have xo := ok_get ou' hi
    generalize u'[j + k] = o at *
    simp (config := { decide := true }) only [bA, bC, bS, bM, bR, rep1_one, bD, bO, bL, bH, bN, bU, bP, getL_L, ecast, fmod_nat, fdiv_nat, Int.natAbs_natCast, cQ, cN, cL, cM, cG, cH, cX, cY, cR, boolP_b, upd, Nat.reduceBEq, cond_true, cond_false, if_true, if_false, f0, f1, f2, f3, f5, f6, getP_some, getT_T, nextP_next, nextP_ret, endP_ret, endP_next, listP_r, tupP_r, intP_i, fnP_f]
    have hmod : (q * y + c) % 2 ^ w < 2 ^ w := Nat.mod_lt _ (by omega)
    have fin : ∀ (br z : Nat), br ≤ 1 → z < 2 ^ w → z + (q * y + c) % 2 ^ w = o + 2 ^ w * br → ∀ lo' : Lo, (lo' 0 = lo 0 ∧ lo' 1 = lo 1 ∧ lo' 2 = lo 2 ∧ lo' 3 = lo 3 ∧ lo' 5 = some (.int (((q * y + c) / 2 ^ w + br : Nat) : Int)) ∧ lo' 6 = lo 6) →
        K' .next lo' ((h.set i (.L (nl u'))).set i (.L (nl (u'.set (j + k) z)))) := by
      intro br z hbr hz hzz lo' hlo
      refine and6 hlo fun g0 g1 g2 g3 g5 g6 => ?_
      clear hlo
      refine nx _ _ ⟨u'.set (j + k) z, (q * y + c) / 2 ^ w + br, g0.trans f0, g1.trans f1, g2.trans f2, g3.trans f3, g5, g6.trans f6, by rw [List.set_set], by omega, ok_set ou' _ _ hz, by simp [hl], ?_, ?_⟩
      · rw [List.drop_set_of_lt (by omega)]; exact hd
      · have v1 := vs z
        rw [tb, show j + (k + 1) = (j + k) + 1 from (Nat.add_assoc j k 1).symm, Nat.pow_succ, Nat.mul_add q, Nat.add_mul _ _ ((2 ^ w) ^ j)]
        have e2 : q * ((2 ^ w) ^ k * y) * (2 ^ w) ^ j = (2 ^ w) ^ (j + k) * (q * y) := by
          rw [Nat.pow_add, Nat.mul_left_comm q, Nat.mul_comm _ ((2 ^ w) ^ j), Nat.mul_assoc]
        rw [e2]
        have h3 := congrArg ((2 ^ w) ^ (j + k) * ·) hzz
        simp only [Nat.mul_add] at h3
        have cs := carry_step ((2 ^ w) ^ (j + k)) (2 ^ w) (q * y + c)
        rw [Nat.mul_add _ (q * y)] at cs
        rw [Nat.mul_add, Nat.mul_assoc ((2 ^ w) ^ (j + k)) (2 ^ w) br]
        omega
    refine ⟨⟨by omega, by omega⟩, by omega, ⟨by omega, by omega⟩, ⟨by omega, by omega⟩, ?_⟩
    by_cases ht : (o : Int) - (((q * y + c) % 2 ^ w : Nat) : Int) < 0
    · simp only [decide_eq_true ht, if_true, cond_true, getP_some, getL_L, getT_T, nextP_next, nextP_ret, endP_ret, endP_next, cond_false, listP_r, tupP_r, intP_i, boolP_b, fnP_f]
      have e : (o : Int) - (((q * y + c) % 2 ^ w : Nat) : Int) + ((2 ^ w : Nat) : Int) = ((o + 2 ^ w - (q * y + c) % 2 ^ w : Nat) : Int) := by omega
      rw [e]
      refine set_nl (hus _) h5 (by omega) hi ?_
      exact fin 1 _ (by omega) (by omega) (by omega) _ ⟨rfl, rfl, rfl, rfl, rfl, rfl⟩
    · simp only [decide_eq_false ht, if_false, cond_false, Bool.false_eq_true, getP_some, getL_L, getT_T, nextP_next, nextP_ret, endP_ret, endP_next, cond_true, listP_r, tupP_r, intP_i, boolP_b, fnP_f]
      have e : (o : Int) - (((q * y + c) % 2 ^ w : Nat) : Int) = ((o - (q * y + c) % 2 ^ w : Nat) : Int) := by omega
      have hset := fun KK => set_nl (x := (j : Int) + (k : Int)) (y := o - (q * y + c) % 2 ^ w) (KK := KK) (hus (.L (nl u'))) h5 (by omega) hi
      rw [← e] at hset
      refine hset _ ?_
      exact fin 0 _ (by omega) (by omega) (by omega) _ ⟨rfl, rfl, rfl, rfl, rfl, rfl⟩
  · intro lo h' hI_
    refine ex2 hI_ fun u' c hJ_ => and12 hJ_ fun f0 f1 f2 f3 f5 f6 hE6_ hc ou' hl hd hval => ?_
    clear hJ_ hI_
    subst hE6_
    rw [List.take_length] at hval
    have hi : j + v.length < u'.length := by omega
    simp (config := { decide := true }) only [qSs0, qSs1, nextP_next, nextP_ret, qS0, qS1, qS2, qS3, qS4, qS5, qS6, qS7, qS8, qS9, qS10, qS11, qS12, tupP_r, getT_T, getP_some, cond_true, cond_false, qE0, qE1, qE2, qE3, qE4, qE5, qE6, qE7, qE8, qE9, qE10, qE11, qE12, qE13, qE14, qE15, qE16, qE17, qE18, qE19, qE20, qE21, qE22, qE23, qE24, qE25, qE26, qT0, qT1, upd, Nat.reduceBEq, if_true, if_false, f0, f1, f2, f3, f5, f6, bA, bC, bS, bM, bR, rep1_one, bD, bO, bL, bH, bN, bU, bP, getL_L, listP_r, hvs, nl_len, endP_ret, endP_next, intP_i, boolP_b, fnP_f]
    refine ix_nl (hus _) (by omega) hi ?_
    have vs := fun z => val_set (2 ^ w) u' (j + v.length) z hi
    have xo := ok_get ou' hi
    generalize u'[j + v.length] = o at *
    simp (config := { decide := true }) only [bA, bC, bS, bM, bR, rep1_one, bD, bO, bL, bH, bN, bU, bP, getL_L, cQ, cN, cL, cM, cG, cH, cX, cY, cR, boolP_b, upd, Nat.reduceBEq, cond_true, cond_false, if_true, if_false, f0, f1, f2, f3, f5, f6, getP_some, getT_T, nextP_next, nextP_ret, endP_ret, endP_next, listP_r, tupP_r, intP_i, fnP_f]
    have fin : ∀ (br z : Nat), br ≤ 1 → z < 2 ^ w → z + c = o + 2 ^ w * br →
        Q (.int (br : Nat)) ((h.set i (.L (nl u'))).set i (.L (nl (u'.set (j + v.length) z)))) := by
      intro br z hbr hz hzz
      rw [List.set_set]
      refine K _ br hbr (ok_set ou' _ _ hz) (by simp [hl]) (by rw [List.drop_set_of_lt (by omega)]; exact hd) ?_
      have v1 := vs z
      have h3 := congrArg ((2 ^ w) ^ (j + v.length) * ·) hzz
      simp only [Nat.mul_add] at h3
      rw [Nat.pow_succ, Nat.mul_assoc ((2 ^ w) ^ (j + v.length))]
      omega
    by_cases ht : (o : Int) - (c : Int) < 0
    · simp only [decide_eq_true ht, if_true, cond_true, getP_some, getL_L, getT_T, nextP_next, nextP_ret, endP_ret, endP_next, cond_false, listP_r, tupP_r, intP_i, boolP_b, fnP_f]
      have e : (o : Int) - (c : Int) + ((2 ^ w : Nat) : Int) = ((o + 2 ^ w - c : Nat) : Int) := by omega
      simp only [e, hvs, getL_L, nl_len]
      refine set_nl (hus _) h5 (by omega) hi ?_
      exact fin 1 _ (by omega) (by omega) (by omega)
    · simp only [decide_eq_false ht, if_false, cond_false, Bool.false_eq_true, getP_some, getL_L, getT_T, nextP_next, nextP_ret, endP_ret, endP_next, cond_true, listP_r, tupP_r, intP_i, boolP_b, fnP_f]
      have e : (o : Int) - (c : Int) = ((o - c : Nat) : Int) := by omega
      simp only [e, hvs, getL_L, nl_len]
      refine set_nl (hus _) h5 (by omega) hi ?_
      exact fin 0 _ (by omega) (by omega) (by omega)

theorem ev_putback {d i jv w j : Nat} {u v : List Nat} {h : Hp} {Q : KV} (hw : WW w) (hij : i ≠ jv) (h5 : ro ≤ i) (hu : h[i]? = some (.L (nl u))) (hv : h[jv]? = some (.L (nl v)))
    (ou : Ok (2 ^ w) u) (ov : Ok (2 ^ w) v) (hj : j + v.length < u.length)
    (K : ∀ u' co, co ≤ 1 → Ok (2 ^ w) u' → u'.length = u.length → u'.drop (j + v.length + 1) = u.drop (j + v.length + 1) → val (2 ^ w) u' + (2 ^ w) ^ (j + v.length + 1) * co = val (2 ^ w) u + val (2 ^ w) v * (2 ^ w) ^ j →
      Q .none (h.set i (.L (nl u')))) : callD prg (d + 1) 240 [.ref i, .ref jv, .int (j : Int), .int (w : Int)] h Q := by
  have p1 : prg 240 = some (4, p_put_back) := rfl
  have hB := hw.two
  have hT := hw.top
  have hw8 := hw.hi
  rw [callD_succ, p1]
  simp (config := { decide := true }) only [List.length_cons, List.length_nil, true_and, p_put_back, qSs0, qSs1, nextP_next, nextP_ret, qS0, qS1, qS2, qS3, qS4, qS5, qS6, qS7, qS8, qS9, qS10, qS11, qS12, tupP_r, getT_T, getP_some, cond_true, cond_false, qE0, qE1, qE2, qE3, qE4, qE5, qE6, qE7, qE8, qE9, qE10, qE11, qE12, qE13, qE14, qE15, qE16, qE17, qE18, qE19, qE20, qE21, qE22, qE23, qE24, qE25, qE26, qEs0, qEs1, qTs0, qTs1, qT0, qT1, List.getElem?_cons_zero, List.getElem?_cons_succ, bA, bC, bS, bM, bR, rep1_one, bD, bO, bL, bH, bN, bU, bP, getL_L, Int.toNat_natCast, Int.one_mul, upd, Nat.reduceBEq, if_true, if_false, listP_r, hv, endP_ret, endP_next, intP_i, boolP_b, fnP_f]
  refine ⟨⟨by omega, by omega, trivial⟩, ?_⟩
  have hvs : ∀ o, (h.set i o)[jv]? = some (.L (nl v)) := fun o => set_ne hv hij
  have hus : ∀ o, (h.set i o)[i]? = some o := fun o => set_self hu
  refine for_enum (fun k lo h' => ∃ u' c, lo 0 = some (.ref i) ∧ lo 1 = some (.ref jv) ∧ lo 2 = some (.int (j : Int)) ∧ lo 3 = some (.int (w : Int)) ∧ lo 4 = some (.int ((c : Nat) : Int)) ∧ lo 5 = some (.int ((2 : Int) ^ w - 1)) ∧
      h' = h.set i (.L (nl u')) ∧ c ≤ 1 ∧ Ok (2 ^ w) u' ∧ u'.length = u.length ∧ u'.drop (j + v.length + 1) = u.drop (j + v.length + 1) ∧
      val (2 ^ w) u' + (2 ^ w) ^ (j + k) * c = val (2 ^ w) u + val (2 ^ w) (v.take k) * (2 ^ w) ^ j) ?_ ?_ ?_ ?_
  · refine ⟨u, 0, rfl, rfl, rfl, rfl, rfl, rfl, ?_, by omega, ou, rfl, rfl, by simp [val]⟩
    exact (set_same hu).symm
  · intro k lo h' hI_
    refine ex2 hI_ fun u' c hJ_ => and8 hJ_ fun _ _ _ _ _ _ hE6_ _ => ?_
    clear hJ_ hI_
    subst hE6_
    exact hvs _
  · intro k hk lo h' K' hI_ nx rr
    refine ex2 hI_ fun u' c hJ_ => and12 hJ_ fun f0 f1 f2 f3 f4 f5 hE6_ hc ou' hl hd hval => ?_
    clear hJ_ hI_
    subst hE6_
    have yb := ok_get ov hk
    have tb := take_succ_val (2 ^ w) v k hk
    generalize v[k] = y at *
    have hi : j + k < u'.length := by omega
    simp (config := { decide := true }) only [qSs0, qSs1, nextP_next, nextP_ret, qS0, qS1, qS2, qS3, qS4, qS5, qS6, qS7, qS8, qS9, qS10, qS11, qS12, tupP_r, getT_T, getP_some, cond_true, cond_false, qE0, qE1, qE2, qE3, qE4, qE5, qE6, qE7, qE8, qE9, qE10, qE11, qE12, qE13, qE14, qE15, qE16, qE17, qE18, qE19, qE20, qE21, qE22, qE23, qE24, qE25, qE26, qT0, qT1, upd, Nat.reduceBEq, if_true, if_false, f0, f1, f2, f3, f4, f5, bA, bC, bS, bM, bR, rep1_one, bD, bO, bL, bH, bN, bU, bP, getL_L, endP_ret, endP_next, listP_r, intP_i, boolP_b, fnP_f]
    refine ix_nl (hus _) (by omega) hi ?_
    have vs := fun z => val_set (2 ^ w) u' (j + k) z hi
    have xo := ok_get ou' hi
    generalize u'[j + k] = o at *
    simp (config := { decide := true }) only [bA, bC, bS, bM, bR, rep1_one, bD, bO, bL, bH, bN, bU, bP, getL_L, ← Int.natCast_add, band_mask, fdiv_pow, Int.toNat_natCast, upd, Nat.reduceBEq, cond_true, cond_false, if_true, if_false, f0, f1, f2, f3, f4, f5, getP_some, getT_T, nextP_next, nextP_ret, endP_ret, endP_next, listP_r, tupP_r, intP_i, boolP_b, fnP_f]
    refine ⟨⟨_, rfl⟩, ?_⟩
    refine set_nl (hus _) h5 (by omega) hi ⟨⟨_, rfl⟩, by omega, ?_⟩
    refine nx _ _ ⟨u'.set (j + k) ((c + (o + y)) % 2 ^ w), (c + (o + y)) / 2 ^ w, f0, f1, f2, f3, rfl, f5, by rw [List.set_set], ?_, ok_set ou' _ _ (Nat.mod_lt _ (by omega)), by simp [hl], ?_, ?_⟩
    · have : (c + (o + y)) / 2 ^ w < 2 := by rw [Nat.div_lt_iff_lt_mul (by omega)]; omega
      omega
    · rw [List.drop_set_of_lt (by omega)]; exact hd
    · have v1 := vs ((c + (o + y)) % 2 ^ w)
      have cs := carry_step ((2 ^ w) ^ (j + k)) (2 ^ w) (c + (o + y))
      rw [Nat.mul_add _ c, Nat.mul_add _ o] at cs
      rw [tb, show j + (k + 1) = (j + k) + 1 from (Nat.add_assoc j k 1).symm, Nat.pow_succ, Nat.add_mul]
      have e2 : (2 ^ w) ^ k * y * (2 ^ w) ^ j = (2 ^ w) ^ (j + k) * y := by
        rw [Nat.pow_add, Nat.mul_comm _ ((2 ^ w) ^ j), Nat.mul_assoc]
      rw [e2]
      omega
  · intro lo h' hI_
    refine ex2 hI_ fun u' c hJ_ => and12 hJ_ fun f0 f1 f2 f3 f4 f5 hE6_ hc ou' hl hd hval => ?_
    clear hJ_ hI_
    subst hE6_
    rw [List.take_length] at hval
    have hi : j + v.length < u'.length := by omega
    simp (config := { decide := true }) only [qSs0, qSs1, nextP_next, nextP_ret, qS0, qS1, qS2, qS3, qS4, qS5, qS6, qS7, qS8, qS9, qS10, qS11, qS12, tupP_r, getT_T, getP_some, cond_true, cond_false, qE0, qE1, qE2, qE3, qE4, qE5, qE6, qE7, qE8, qE9, qE10, qE11, qE12, qE13, qE14, qE15, qE16, qE17, qE18, qE19, qE20, qE21, qE22, qE23, qE24, qE25, qE26, qT0, qT1, upd, Nat.reduceBEq, if_true, if_false, f0, f1, f2, f3, f4, f5, bA, bC, bS, bM, bR, rep1_one, bD, bO, bL, bH, bN, bU, bP, getL_L, listP_r, hvs, nl_len, endP_ret, endP_next, intP_i, boolP_b, fnP_f]
    refine ix_nl (hus _) (by omega) hi ?_
    have vs := fun z => val_set (2 ^ w) u' (j + v.length) z hi
    have xo := ok_get ou' hi
    generalize u'[j + v.length] = o at *
    simp (config := { decide := true }) only [bA, bC, bS, bM, bR, rep1_one, bD, bO, bL, bH, bN, bU, bP, getL_L, ← Int.natCast_add, band_mask, f4, f5, hvs, nl_len, getP_some, getT_T, nextP_next, nextP_ret, endP_ret, endP_next, cond_true, cond_false, listP_r, tupP_r, intP_i, boolP_b, fnP_f]
    refine set_nl (hus _) h5 (by omega) hi ?_
    rw [List.set_set]
    refine K _ ((o + c) / 2 ^ w) ?_ (ok_set ou' _ _ (Nat.mod_lt _ (by omega))) (by simp [hl]) (by rw [List.drop_set_of_lt (by omega)]; exact hd) ?_
    · have : (o + c) / 2 ^ w < 2 := by rw [Nat.div_lt_iff_lt_mul (by omega)]; omega
      omega
    · have v1 := vs ((o + c) % 2 ^ w)
      have cs := carry_step ((2 ^ w) ^ (j + v.length)) (2 ^ w) (o + c)
      rw [Nat.mul_add _ o] at cs
      rw [Nat.pow_succ]
      omega
end Mine

set_option linter.unusedVariables false
set_option linter.unusedSimpArgs false
set_option autoImplicit false
namespace Mine
open PySem

theorem knuth_q {B D Bj W lo T V vl V2 q : Nat} (hW : W = lo + D * Bj * T) (hlo : lo < D * Bj) (hV : V = vl + D * V2) (hvl : vl < D) (hD : D * B ≤ V) (hV0 : 0 < V) (hBj : 0 < Bj) (hlt : W < V * Bj * B)
    (hq : q < B) (hqT : q * V2 ≤ T) (hmax : ∀ x, x < B → x * V2 ≤ T → x ≤ q) : ∃ qt, qt * (V * Bj) ≤ W ∧ W < qt * (V * Bj) + V * Bj ∧ qt ≤ q ∧ q ≤ qt + 1 := by
  have hX : 0 < V * Bj := Nat.mul_pos hV0 hBj
  refine ⟨W / (V * Bj), Nat.div_mul_le_self _ _, ?_, ?_, ?_⟩
  · have := Nat.lt_mul_div_succ W hX
    rw [Nat.mul_comm (W / _)]
    rw [Nat.mul_add, Nat.mul_one] at this
    exact this
  · refine hmax _ (Nat.div_lt_of_lt_mul hlt) ?_
    generalize hqt : W / (V * Bj) = qt
    have h1 : qt * (V * Bj) ≤ W := by rw [← hqt]; exact Nat.div_mul_le_self _ _
    by_cases hc : qt * V2 ≤ T
    · exact hc
    · have h2 := Nat.mul_le_mul_left (D * Bj) (show T + 1 ≤ qt * V2 by omega)
      rw [Nat.mul_add, Nat.mul_one] at h2
      have h3 : D * Bj * (qt * V2) ≤ qt * (V * Bj) := by
        have h4 : D * V2 ≤ V := by omega
        have h5 := Nat.mul_le_mul_left qt (Nat.mul_le_mul_right Bj h4)
        have e : D * Bj * (qt * V2) = qt * (D * V2 * Bj) := by
          rw [Nat.mul_left_comm (D * Bj) qt, Nat.mul_assoc D Bj V2, Nat.mul_comm Bj V2, ← Nat.mul_assoc D V2]
        rw [e]; exact h5
      omega
  · generalize hqt : W / (V * Bj) = qt
    have h1 : W < V * Bj * (qt + 1) := by rw [← hqt]; exact Nat.lt_mul_div_succ W hX
    by_cases hc : q ≤ qt + 1
    · exact hc
    · have h2 := Nat.mul_le_mul_right (V * Bj) (show qt + 2 ≤ q by omega)
      have e1 : q * (V * Bj) = q * vl * Bj + D * Bj * (q * V2) := by
        rw [hV, Nat.add_mul, Nat.mul_add, ← Nat.mul_assoc q vl]
        congr 1
        rw [Nat.mul_left_comm (D * Bj) q, Nat.mul_assoc D Bj V2, Nat.mul_comm Bj V2, ← Nat.mul_assoc D V2]
      have h3 : q * vl * Bj ≤ V * Bj := by
        refine Nat.mul_le_mul_right Bj ?_
        have := Nat.mul_le_mul (Nat.le_of_lt hq) (Nat.le_of_lt hvl)
        rw [Nat.mul_comm B D] at this
        omega
      have h4 := Nat.mul_le_mul_left (D * Bj) hqT
      have e2 : (qt + 2) * (V * Bj) = V * Bj * (qt + 1) + V * Bj := by
        rw [Nat.add_mul, Nat.mul_comm qt, Nat.mul_add (V * Bj) qt 1, Nat.mul_one]; omega
      omega

noncomputable def ExtB (i : Nat) (h h' : Hp) : Prop := ∀ (a : Nat) (o : Ob), a ≠ i → h[a]? = some o → h'[a]? = some o
theorem ExtB.set {i : Nat} {h h' : Hp} {o : Ob} (x : ExtB i h h') : ExtB i h (h'.set i o) := fun a o' n e => set_ne (x a o' n e) (fun e => n e.symm)
theorem ExtB.set2 {i p : Nat} {h h' : Hp} {o : Ob} (x : ExtB i h h') (hp : h.length ≤ p) : ExtB i h (h'.set p o) := fun a o' n e => set_ne (x a o' n e) (by have := lt_of_get e; omega)
theorem ExtB.push {i : Nat} {h h' : Hp} {o : Ob} (x : ExtB i h h') : ExtB i h (h' ++ [o]) := fun a o' n e => push_get (x a o' n e)
theorem drop3 {u : List Nat} {a : Nat} (h : a + 2 < u.length) : (u.drop a).take 3 = [u[a], u[a + 1], u[a + 2]] := by
  rw [List.drop_eq_getElem_cons (by omega), List.drop_eq_getElem_cons (i := a + 1) (by omega), List.drop_eq_getElem_cons (i := a + 1 + 1) (by omega)]
  rfl
theorem drop3_val {B : Nat} {u : List Nat} {a : Nat} (h : a + 2 < u.length) (h0 : val B (u.drop (a + 3)) = 0) : val B u = val B (u.take a) + B ^ a * (u[a] + B * (u[a + 1] + B * u[a + 2])) := by
  rw [val_take_drop B u a (by omega)]
  rw [List.drop_eq_getElem_cons (by omega), List.drop_eq_getElem_cons (i := a + 1) (by omega), List.drop_eq_getElem_cons (i := a + 1 + 1) (by omega), val, val, val]
  rw [show a + 1 + 1 + 1 = a + 3 from rfl, h0, Nat.mul_zero]
  rfl
theorem drop_val0 {B : Nat} {u : List Nat} {k : Nat} (hB : 2 ≤ B) (hk : k ≤ u.length) (h : val B u < B ^ k) : val B (u.drop k) = 0 := by
  have := val_take_drop B u k hk
  rcases Nat.eq_zero_or_pos (val B (u.drop k)) with h0 | h0
  · exact h0
  · have := Nat.mul_le_mul_left (B ^ k) (show 1 ≤ val B (u.drop k) from h0)
    omega

theorem ev_dividerows {d i jv w : Nat} {u v : List Nat} {h : Hp} {Q : KV} (hw : WW w) (hij : i ≠ jv) (h5 : ro ≤ i) (hu : h[i]? = some (.L (nl u))) (hv : h[jv]? = some (.L (nl v)))
    (ou : Ok (2 ^ w) u) (ov : Ok (2 ^ w) v) (hn2 : 2 ≤ v.length) (hnu : v.length ≤ u.length) (hul : u.length ≤ 1000) (hvt : 0 < v[v.length - 1]'(by omega)) (hlt : val (2 ^ w) u < val (2 ^ w) v * (2 ^ w) ^ (u.length - v.length))
    (K : ∀ h' k u' qs, ExtB i h h' → h.length ≤ h'.length → h.length ≤ k → h'[k]? = some (.L (nl qs)) → h'[i]? = some (.L (nl u')) → Ok (2 ^ w) u' → Ok (2 ^ w) qs → val (2 ^ w) u' + val (2 ^ w) v * val (2 ^ w) qs = val (2 ^ w) u → val (2 ^ w) u' < val (2 ^ w) v → Q (.ref k) h') :
    callD prg (d + 2) 247 [.ref i, .ref jv, .int (w : Int)] h Q := by
  have p1 : prg 247 = some (3, p_divide_rows) := rfl
  have hB := hw.two
  have hT := hw.top
  have hw8 := hw.hi
  have hil := lt_of_get hu
  have hjl := lt_of_get hv
  have b1 : (2000 : Nat) < big := by decide
  rw [callD_succ, p1]
  have hu1 : ∀ o, (h ++ [o])[i]? = some (.L (nl u)) := fun o => push_get hu
  have hv1 : ∀ o, (h ++ [o])[jv]? = some (.L (nl v)) := fun o => push_get hv
  have hu2 : ∀ o o', (h ++ [o] ++ [o'])[i]? = some (.L (nl u)) := fun o o' => push_get (push_get hu)
  have hv2 : ∀ o o', (h ++ [o] ++ [o'])[jv]? = some (.L (nl v)) := fun o o' => push_get (push_get hv)
  have esub : ((u.length : Nat) : Int) - ((v.length : Nat) : Int) = ((u.length - v.length : Nat) : Int) := by omega
  simp (config := { decide := true }) only [List.length_cons, List.length_nil, true_and, p_divide_rows, qSs0, qSs1, nextP_next, nextP_ret, qS0, qS1, qS2, qS3, qS4, qS5, qS6, qS7, qS8, qS9, qS10, qS11, qS12, tupP_r, getT_T, getP_some, cond_true, cond_false, qE0, qE1, qE2, qE3, qE4, qE5, qE6, qE7, qE8, qE9, qE10, qE11, qE12, qE13, qE14, qE15, qE16, qE17, qE18, qE19, qE20, qE21, qE22, qE23, qE24, qE25, qE26, qEs0, qEs1, qTs0, qTs1, qT0, qT1, List.getElem?_cons_zero, List.getElem?_cons_succ, bA, bC, bS, bM, bR, rep1_one, bD, bO, bL, bH, bN, bU, bP, getL_L, Int.toNat_natCast, upd, Nat.reduceBEq, if_true, if_false, listP_r, hu, hv, hu1, hv1, hu2, hv2, nl_len, push_last, esub, rep_nl, intP_i, endP_ret, endP_next, boolP_b, fnP_f]
  have hlen : (h ++ [Ob.L [V.int 0]]).length = h.length + 1 := by simp
  rw [hlen]
  generalize hp : h.length + 1 = p
  have hpl : h.length ≤ p := by omega
  have E2 : ∀ o o', Ext h (h ++ [o] ++ [o']) := fun o o' => (Ext.push _ _).push' _
  have P2 : ∀ o o', (h ++ [o] ++ [o'])[p]? = some o' := fun o o' => by
    have := push_last (h ++ [o]) o'
    rw [show (h ++ [o]).length = p by simp; omega] at this
    exact this
  refine ⟨⟨by omega, by omega, by omega⟩, ⟨by omega, trivial⟩, ?_⟩
  generalize hm : u.length - v.length = m at *
  have hVlt := val_lt ov
  have hV0 : 0 < val (2 ^ w) v := by
    have := take_succ_val (2 ^ w) v (v.length - 1) (by omega)
    rw [Nat.sub_add_cancel (by omega), List.take_length] at this
    have h2 := Nat.mul_le_mul_left ((2 ^ w) ^ (v.length - 1)) (show 1 ≤ v[v.length - 1] from hvt)
    have h3 : 0 < (2 ^ w) ^ (v.length - 1) := Nat.pow_pos (by omega)
    omega
  -- the two upper limbs of v
  have hVd := val_take_drop (2 ^ w) v (v.length - 2) (by omega)
  rw [List.drop_eq_getElem_cons (i := v.length - 2) (by omega), List.drop_eq_getElem_cons (i := v.length - 2 + 1) (by omega), List.drop_eq_nil_of_le (by omega), val, val, val, Nat.mul_zero, Nat.add_zero] at hVd
  have hvl := val_lt (ok_take ov (v.length - 2))
  rw [List.length_take, Nat.min_eq_left (by omega)] at hvl
  have eidx : v.length - 2 + 1 = v.length - 1 := by omega
  have hVd' : val (2 ^ w) v = val (2 ^ w) (v.take (v.length - 2)) + (2 ^ w) ^ (v.length - 2) * (v[v.length - 2] + 2 ^ w * v[v.length - 1]) := by
    rw [hVd]; simp only [eidx]
  have hDV : (2 ^ w) ^ (v.length - 2) * 2 ^ w ≤ val (2 ^ w) v := by
    have h2 := Nat.mul_le_mul_left ((2 ^ w) ^ (v.length - 2)) (show 2 ^ w ≤ v[v.length - 2] + 2 ^ w * v[v.length - 1] by
      have := Nat.mul_le_mul_left (2 ^ w) (show 1 ≤ v[v.length - 1] from hvt)
      omega)
    omega
  refine for_down (fun k lo h' => ∃ u' qs, lo 0 = some (.ref i) ∧ lo 1 = some (.ref jv) ∧ lo 2 = some (.int (w : Int)) ∧ lo 3 = some (.int ((v.length : Nat) : Int)) ∧ lo 4 = some (.ref p) ∧
      ExtB i h h' ∧ h.length ≤ h'.length ∧ h'[p]? = some (.L (nl qs)) ∧ h'[i]? = some (.L (nl u')) ∧ Ok (2 ^ w) u' ∧ Ok (2 ^ w) qs ∧ u'.length = u.length ∧ qs.length = m ∧ (∀ t, t < m - k → qs[t]? = some 0) ∧
      val (2 ^ w) u' + val (2 ^ w) v * val (2 ^ w) qs = val (2 ^ w) u ∧ val (2 ^ w) u' < val (2 ^ w) v * (2 ^ w) ^ (m - k)) m rfl rfl ?_ ?_ ?_
  · refine ⟨u, List.replicate m 0, rfl, rfl, rfl, rfl, rfl, fun a o _ e => E2 _ _ a o e, (E2 _ _).len, P2 _ _, hu2 _ _, ou, ok_zeros (by omega), rfl, by simp, fun t ht => by rw [List.getElem?_replicate, if_pos (by omega)], by simp [val_zeros], hlt⟩
  · intro k lo h' K' hk hI_ nx rr
    refine ex2 hI_ fun u' qs hJ_ => and16 hJ_ fun f0 f1 f2 f3 f4 hE hEl hqs hu' ou' oq hul' hql hz hv' hlt' => ?_
    clear hJ_ hI_
    have hvj := hE jv _ (Ne.symm hij) hv
    have e1 : m - k = (m - 1 - k) + 1 := by omega
    have e2 : m - (k + 1) = m - 1 - k := by omega
    rw [e1] at hlt' hz
    rw [e2] at nx
    have hj : m - 1 - k + v.length < u'.length := by omega
    have hjm : m - 1 - k < qs.length := by omega
    generalize m - 1 - k = j at *
    have hpi : p ≠ i := by omega
    have hpj : p ≠ jv := by omega
    simp (config := { decide := true }) only [qSs0, qSs1, nextP_next, nextP_ret, qS0, qS1, qS2, qS3, qS4, qS5, qS6, qS7, qS8, qS9, qS10, qS11, qS12, tupP_r, getT_T, getP_some, cond_true, cond_false, qE0, qE1, qE2, qE3, qE4, qE5, qE6, qE7, qE8, qE9, qE10, qE11, qE12, qE13, qE14, qE15, qE16, qE17, qE18, qE19, qE20, qE21, qE22, qE23, qE24, qE25, qE26, qEs0, qEs1, qT0, qT1, fnP_f, upd, Nat.reduceBEq, if_true, if_false, f0, f1, f2, f3, f4, bA, bC, bS, bM, bR, rep1_one, bD, bO, bL, bH, bN, bU, bP, getL_L, listP_r, hu', nl_len, intP_i, endP_ret, endP_next, boolP_b]
    refine ⟨⟨by omega, by omega, by omega⟩, ?_⟩
    have etk : (((j : Int) + ((v.length : Nat) : Int) + 1).toNat - ((j : Int) + ((v.length : Nat) : Int) - 2).toNat) = 3 := by omega
    have edr : ((j : Int) + ((v.length : Nat) : Int) - 2).toNat = j + v.length - 2 := by omega
    have h3 : (List.take (((j : Int) + ((v.length : Nat) : Int) + 1).toNat - ((j : Int) + ((v.length : Nat) : Int) - 2).toNat) (List.drop ((j : Int) + ((v.length : Nat) : Int) - 2).toNat (nl u'))) =
        nl [u'[j + v.length - 2], u'[j + v.length - 2 + 1], u'[j + v.length - 2 + 2]] := by
      rw [etk, edr, ← drop3 (by omega)]
      simp [List.map_take, List.map_drop]
    rw [h3]
    have hvj1 : ∀ o, (h' ++ [o])[jv]? = some (.L (nl v)) := fun o => push_get hvj
    have hu1' : ∀ o, (h' ++ [o])[i]? = some (.L (nl u')) := fun o => push_get hu'
    refine ix_nl (idx := v.length - 1) (hvj1 _) (by omega) (by omega) ?_
    refine ix_nl (idx := v.length - 2) (hvj1 _) (by omega) (by omega) ?_
    have k1 := ok_get ou' (k := j + v.length - 2) (by omega)
    have k2 := ok_get ou' (k := j + v.length - 2 + 1) (by omega)
    have k3 := ok_get ou' (k := j + v.length - 2 + 2) (by omega)
    have hWB : val (2 ^ w) u' < (2 ^ w) ^ (j + v.length + 1) := by
      have : val (2 ^ w) v * (2 ^ w) ^ (j + 1) ≤ (2 ^ w) ^ v.length * (2 ^ w) ^ (j + 1) := Nat.mul_le_mul_right _ (Nat.le_of_lt hVlt)
      rw [← Nat.pow_add, show v.length + (j + 1) = j + v.length + 1 by omega] at this
      omega
    have hup : val (2 ^ w) (u'.drop (j + v.length + 1)) = 0 := drop_val0 hB (by omega) hWB
    have hWd := drop3_val (B := 2 ^ w) (u := u') (a := j + v.length - 2) (by omega) (by rw [show j + v.length - 2 + 3 = j + v.length + 1 by omega]; exact hup)
    have hlo := val_lt (ok_take ou' (j + v.length - 2))
    rw [List.length_take, Nat.min_eq_left (by omega)] at hlo
    have epow : (2 ^ w) ^ (j + v.length - 2) = (2 ^ w) ^ (v.length - 2) * (2 ^ w) ^ j := by
      rw [← Nat.pow_add]; congr 1; omega
    rw [epow] at hWd hlo
    refine ev_guess hw (push_last _ _) k1 k2 k3 hvt (ok_get ov (by omega)) (ok_get ov (by omega)) fun q hq hqT hmax => ?_
    obtain ⟨qt, hq1, hq2, hq3, hq4⟩ := knuth_q (B := 2 ^ w) (D := (2 ^ w) ^ (v.length - 2)) (Bj := (2 ^ w) ^ j) hWd hlo hVd' hvl hDV hV0 (Nat.pow_pos (by omega))
      (by rw [Nat.mul_assoc, ← Nat.pow_succ]; exact hlt') hq hqT hmax
    refine ev_takeaway hw hij h5 (hu1' _) (hvj1 _) ou' ov hq hj fun u2 br hbr ou2 hl2 hd2 hval2 => ?_
    simp (config := { decide := true }) only [cQ, cN, cL, cM, cG, cH, cX, cY, cR, boolP_b, getP_some, getL_L, getT_T, nextP_next, nextP_ret, endP_ret, endP_next, cond_true, cond_false, listP_r, tupP_r, intP_i, fnP_f]
    generalize hX : val (2 ^ w) v * (2 ^ w) ^ j = X at *
    have hqX : q * val (2 ^ w) v * (2 ^ w) ^ j = q * X := by rw [Nat.mul_assoc, hX]
    rw [hqX] at hval2
    have hup2 : val (2 ^ w) u2 < (2 ^ w) ^ (j + v.length + 1) := take_drop_lt (by omega) ou2 (by rw [hd2]; exact hup)
    -- the end of the turn
    have fin : ∀ (u3 : List Nat) (q' : Nat) (lo' : Lo), q' < 2 ^ w → Ok (2 ^ w) u3 → u3.length = u.length → val (2 ^ w) u3 + q' * X = val (2 ^ w) u' → val (2 ^ w) u3 < X → (lo' 0 = lo 0 ∧ lo' 1 = lo 1 ∧ lo' 2 = lo 2 ∧ lo' 3 = lo 3 ∧ lo' 4 = lo 4) →
        ∀ o3, setP (.ref p) (.int (j : Int)) (.int (q' : Int)) ((h' ++ [o3]).set i (.L (nl u3))) fun h => K' .next lo' h := by
      intro u3 q' lo' hq' ou3 hl3 hv3 hlt3 hlo' o3
      obtain ⟨g0, g1, g2, g3, g4⟩ := hlo'
      have hqs3 : ((h' ++ [o3]).set i (.L (nl u3)))[p]? = some (.L (nl qs)) := set_ne (push_get hqs) (Ne.symm hpi)
      refine set_nl hqs3 (by have : ro ≤ h.length := by omega
                             omega) rfl hjm ?_
      have z0 : qs[j] = 0 := by
        have := hz j (by omega)
        rw [List.getElem?_eq_getElem hjm] at this
        exact Option.some.inj this
      have vs := val_set (2 ^ w) qs j q' hjm
      rw [z0] at vs
      refine nx _ _ ⟨u3, qs.set j q', g0.trans f0, g1.trans f1, g2.trans f2, g3.trans f3, g4.trans f4, (hE.push.set).set2 hpl, by simp; omega, set_self hqs3, set_ne (set_self (hu1' _)) hpi, ou3, ok_set oq _ _ hq', hl3, by simp [hql], ?_, ?_, hlt3⟩
      · intro t ht
        rw [List.getElem?_set_ne (by omega)]; exact hz t (by omega)
      · have e : val (2 ^ w) (qs.set j q') = val (2 ^ w) qs + (2 ^ w) ^ j * q' := by omega
        rw [e, Nat.mul_add, ← Nat.mul_assoc, hX, Nat.mul_comm X q']
        omega
    by_cases hbr0 : br = 0
    · subst hbr0
      have hc : ((((0 : Nat) : Int)) == 1) = false := rfl
      simp only [hc, Bool.false_eq_true, if_false, cond_false, qSs0, qSs1, nextP_next, nextP_ret, qE0, qE1, qE2, qE3, qE4, qE5, qE6, qE7, qE8, qE9, qE10, qE11, qE12, qE13, qE14, qE15, qE16, qE17, qE18, qE19, qE20, qE21, qE22, qE23, qE24, qE25, qE26, getP_some, upd, Nat.reduceBEq, cond_true, if_true, getL_L, getT_T, endP_ret, endP_next, listP_r, tupP_r, intP_i, boolP_b, fnP_f]
      have hqle : q * X ≤ val (2 ^ w) u' := by omega
      have hqq : q = qt := by
        by_cases hqq : q = qt
        · exact hqq
        · have : q = qt + 1 := by omega
          rw [this, Nat.add_mul, Nat.one_mul] at hqle
          omega
      subst hqq
      refine fin u2 q _ hq ou2 (by omega) (by omega) (by omega) ?_ _
      exact ⟨rfl, rfl, rfl, rfl, rfl⟩
    · have hbr1 : br = 1 := by omega
      subst hbr1
      have hc : ((((1 : Nat) : Int)) == 1) = true := rfl
      simp (config := { decide := true }) only [hc, if_true, cond_true, qSs0, qSs1, nextP_next, nextP_ret, qS0, qS1, qS2, qS3, qS4, qS5, qS6, qS7, qS8, qS9, qS10, qS11, qS12, tupP_r, getT_T, getP_some, cond_false, qE0, qE1, qE2, qE3, qE4, qE5, qE6, qE7, qE8, qE9, qE10, qE11, qE12, qE13, qE14, qE15, qE16, qE17, qE18, qE19, qE20, qE21, qE22, qE23, qE24, qE25, qE26, qEs0, qEs1, upd, Nat.reduceBEq, if_false, bA, bC, bS, bM, bR, rep1_one, bD, bO, bL, bH, bN, bU, bP, getL_L, f0, f1, f2, f3, f4, fnP_f, endP_ret, endP_next, listP_r, intP_i, boolP_b]
      refine ⟨⟨_, rfl⟩, ?_⟩
      have hvj2 : ∀ o o', ((h' ++ [o]).set i o')[jv]? = some (.L (nl v)) := fun o o' => set_ne (hvj1 _) hij
      refine ev_putback hw hij h5 (set_self (hu1' _)) (hvj2 _ _) ou2 ov (by omega) fun u3 co hco ou3 hl3 hd3 hval3 => ?_
      have hup3 : val (2 ^ w) u3 < (2 ^ w) ^ (j + v.length + 1) := take_drop_lt (by omega) ou3 (by rw [hd3, hd2]; exact hup)
      rw [hX] at hval3
      generalize (2 ^ w) ^ (j + v.length + 1) = PP at *
      have hqgt : val (2 ^ w) u' < q * X := by omega
      have hqq : q = qt + 1 := by
        by_cases hqq : q = qt
        · subst hqq; omega
        · omega
      subst hqq
      rw [Nat.add_mul, Nat.one_mul] at hqgt hval2
      have hco1 : co = 1 := by
        rcases Nat.eq_zero_or_pos co with h0 | h0
        · subst h0; omega
        · omega
      subst hco1
      have eq1 : (((qt + 1 : Nat) : Int) - 1) = ((qt : Nat) : Int) := by omega
      rw [eq1, List.set_set]
      refine fin u3 qt _ (by omega) ou3 (by omega) (by omega) (by omega) ⟨?_, ?_, ?_, ?_, ?_⟩ _ <;> simp [upd]
  · intro lo h' hI_
    refine ex2 hI_ fun u' qs hJ_ => and16 hJ_ fun f0 f1 f2 f3 f4 hE hEl hqs hu' ou' oq hul' hql hz hv' hlt' => ?_
    clear hJ_ hI_
    rw [Nat.sub_self, Nat.pow_zero, Nat.mul_one] at hlt'
    simp (config := { decide := true }) only [qSs0, qSs1, nextP_next, nextP_ret, qS0, qS1, qS2, qS3, qS4, qS5, qS6, qS7, qS8, qS9, qS10, qS11, qS12, tupP_r, getT_T, getP_some, cond_true, cond_false, qE0, qE1, qE2, qE3, qE4, qE5, qE6, qE7, qE8, qE9, qE10, qE11, qE12, qE13, qE14, qE15, qE16, qE17, qE18, qE19, qE20, qE21, qE22, qE23, qE24, qE25, qE26, f4, getL_L, endP_ret, endP_next, listP_r, intP_i, boolP_b, fnP_f]
    exact K _ _ u' qs hE hEl hpl hqs hu' ou' oq hv' hlt'
end Mine

set_option linter.unusedVariables false
set_option linter.unusedSimpArgs false
set_option autoImplicit false
set_option maxRecDepth 8000
namespace Mine
open PySem

theorem last_ix {i : Nat} {l : List Nat} {h : Hp} {KK : V → Prop} (hl : h[i]? = some (.L (nl l))) (hn : 0 < l.length) (K : KK (.int (l[l.length - 1] : Nat))) : ixP (.ref i) (.int (-1)) h KK := by
  simp only [iX, ixO_L, ixO_T, getP_some, hl, nl_len, getL_L, getT_T, nextP_next, nextP_ret, endP_ret, endP_next, cond_true, cond_false, listP_r, tupP_r, intP_i, boolP_b, fnP_f]
  refine ⟨⟨by omega, by omega⟩, ?_⟩
  rw [if_pos (by decide), show ((-1 : Int) + ((l.length : Nat) : Int)).toNat = l.length - 1 by omega, nl_get _ _ (by omega)]
  exact K

theorem top_bound {B : Nat} {l : List Nat} (ho : Ok B l) (hn : 0 < l.length) : val B l < B ^ (l.length - 1) * (l[l.length - 1] + 1) := by
  have h1 := take_succ_val B l (l.length - 1) (by omega)
  rw [Nat.sub_add_cancel (by omega), List.take_length] at h1
  have h2 := val_lt (ok_take ho (l.length - 1))
  rw [List.length_take, Nat.min_eq_left (by omega)] at h2
  rw [Nat.mul_add, Nat.mul_one]; omega

noncomputable def Divs (w : Nat) (a b : Nat) (Q : KV) (h : Hp) : Prop :=
  ∀ h' k q r, Ext h h' → h.length ≤ k → h.length ≤ q → h.length ≤ r → h'[k]? = some (.T [.ref q, .ref r]) → h'[q]? = some (.L (nl (dig (2 ^ w) (a / b)))) → h'[r]? = some (.L (nl (dig (2 ^ w) (a % b)))) → Q (.ref k) h'

theorem ev_divrem {d i j w a b : Nat} {h : Hp} {Q : KV} (hw : WW w) (h5 : ro ≤ h.length) (ha : h[i]? = some (.L (nl (dig (2 ^ w) a)))) (hb : h[j]? = some (.L (nl (dig (2 ^ w) b)))) (la : a * 256 < lim) (lb : b * 256 < lim) (hb0 : 0 < b)
    (K : Divs w a b Q h) : callD prg (d + 4) 254 [.ref i, .ref j, .int (w : Int)] h Q := by
  have p1 : prg 254 = some (3, p_divrem_school) := rfl
  have hB := hw.two
  have hT := hw.top
  have hw8 := hw.hi
  have l1 := dig_lim hB (n := a) (by omega)
  have l2 := dig_lim hB (n := b) (by omega)
  have b1 : (2000 : Nat) < big := by decide
  have hbl : 0 < (dig (2 ^ w) b).length := by
    have := dig_len0 hB b
    omega
  have hc0 : ((((dig (2 ^ w) b).length : Nat) : Int) == 0) = false := by
    rw [beq_eq_false_iff_ne]; omega
  rw [callD_succ, p1]
  simp (config := { decide := true }) only [List.length_cons, List.length_nil, true_and, p_divrem_school, qSs0, qSs1, nextP_next, nextP_ret, qS0, qS1, qS2, qS3, qS4, qS5, qS6, qS7, qS8, qS9, qS10, qS11, qS12, tupP_r, getT_T, getP_some, cond_true, cond_false, qE0, qE1, qE2, qE3, qE4, qE5, qE6, qE7, qE8, qE9, qE10, qE11, qE12, qE13, qE14, qE15, qE16, qE17, qE18, qE19, qE20, qE21, qE22, qE23, qE24, qE25, qE26, qEs0, qEs1, qT0, qT1, List.getElem?_cons_zero, List.getElem?_cons_succ, fnP_f, listP_r, getL_L, ha, hb, nl_len, cQ, cN, cL, cM, cG, cH, cX, cY, cR, boolP_b, hc0, if_false, endP_ret, endP_next, intP_i]
  refine ev_compare hB ha hb (by omega) (by omega) fun c hc => ?_
  simp only [cQ, cN, cL, cM, cG, cH, cX, cY, cR, boolP_b, getP_some, getL_L, getT_T, nextP_next, nextP_ret, endP_ret, endP_next, cond_true, cond_false, listP_r, tupP_r, intP_i, fnP_f]
  by_cases hlt : a < b
  · rw [decide_eq_true (by omega)]
    have ha1 : ∀ o, (h ++ [o])[i]? = some (.L (nl (dig (2 ^ w) a))) := fun o => push_get ha
    simp (config := { decide := true }) only [if_true, cond_true, qSs0, qSs1, nextP_next, nextP_ret, qS0, qS1, qS2, qS3, qS4, qS5, qS6, qS7, qS8, qS9, qS10, qS11, qS12, tupP_r, getT_T, getP_some, cond_false, qE0, qE1, qE2, qE3, qE4, qE5, qE6, qE7, qE8, qE9, qE10, qE11, qE12, qE13, qE14, qE15, qE16, qE17, qE18, qE19, qE20, qE21, qE22, qE23, qE24, qE25, qE26, qEs0, qEs1, List.getElem?_cons_zero, listP_r, getL_L, ha1, endP_ret, endP_next, intP_i, boolP_b, fnP_f]
    refine K _ _ h.length (h ++ [Ob.L []]).length (((Ext.push _ _).push' _).push' _) (by simp) (Nat.le_refl _) (by simp) (push_last _ _) ?_ ?_
    · rw [Nat.div_eq_of_lt hlt, dig_zero]
      exact push_get (push_get (push_last _ _))
    · rw [Nat.mod_eq_of_lt hlt]
      exact push_get (push_last _ _)
  · rw [decide_eq_false (by omega)]
    simp (config := { decide := true }) only [if_false, cond_false, qSs0, qSs1, nextP_next, nextP_ret, qS0, qS1, qS2, qS3, qS4, qS5, qS6, qS7, qS8, qS9, qS10, qS11, qS12, tupP_r, getT_T, getP_some, cond_true, qE0, qE1, qE2, qE3, qE4, qE5, qE6, qE7, qE8, qE9, qE10, qE11, qE12, qE13, qE14, qE15, qE16, qE17, qE18, qE19, qE20, qE21, qE22, qE23, qE24, qE25, qE26, qEs0, qEs1, List.getElem?_cons_zero, List.getElem?_cons_succ, listP_r, getL_L, hb, nl_len, cQ, cN, cL, cM, cG, cH, cX, cY, cR, boolP_b, endP_ret, endP_next, intP_i, fnP_f]
    by_cases hone : (dig (2 ^ w) b).length = 1
    · have hc1 : ((((dig (2 ^ w) b).length : Nat) : Int) == 1) = true := by rw [hone]; rfl
      rw [hc1]
      simp (config := { decide := true }) only [if_true, cond_true, qSs0, qSs1, nextP_next, nextP_ret, qS0, qS1, qS2, qS3, qS4, qS5, qS6, qS7, qS8, qS9, qS10, qS11, qS12, tupP_r, getT_T, getP_some, cond_false, qE0, qE1, qE2, qE3, qE4, qE5, qE6, qE7, qE8, qE9, qE10, qE11, qE12, qE13, qE14, qE15, qE16, qE17, qE18, qE19, qE20, qE21, qE22, qE23, qE24, qE25, qE26, qEs0, qEs1, List.getElem?_cons_zero, List.getElem?_cons_succ, fnP_f, getL_L, endP_ret, endP_next, listP_r, intP_i, boolP_b]
      have hbB : b < 2 ^ w := by
        have := dig_lt_len hB b
        rwa [hone, Nat.pow_one] at this
      have hb' : h[j]? = some (.L (nl [b])) := by rw [← dig_small hB hb0 hbB]; exact hb
      exact ev_divsmall hw h5 ha hb' (by omega) hb0 hbB K
    · have hc1 : ((((dig (2 ^ w) b).length : Nat) : Int) == 1) = false := by rw [beq_eq_false_iff_ne]; omega
      rw [hc1]
      simp (config := { decide := true }) only [if_false, cond_false, qSs0, qSs1, nextP_next, nextP_ret, qS0, qS1, qS2, qS3, qS4, qS5, qS6, qS7, qS8, qS9, qS10, qS11, qS12, tupP_r, getT_T, getP_some, cond_true, qE0, qE1, qE2, qE3, qE4, qE5, qE6, qE7, qE8, qE9, qE10, qE11, qE12, qE13, qE14, qE15, qE16, qE17, qE18, qE19, qE20, qE21, qE22, qE23, qE24, qE25, qE26, qEs0, qEs1, qT0, qT1, List.getElem?_cons_zero, List.getElem?_cons_succ, fnP_f, intP_i, getL_L, endP_ret, endP_next, listP_r, boolP_b]
      refine last_ix hb hbl ?_
      have htop := top_bound (ok_dig hB b) hbl
      rw [val_dig hB] at htop
      have hx0 : 0 < (dig (2 ^ w) b)[(dig (2 ^ w) b).length - 1] := by
        have hN := nrm_dig hB b
        unfold Nrm at hN
        rw [List.getLast?_eq_getElem?, List.getElem?_eq_getElem (by omega)] at hN
        have : (dig (2 ^ w) b)[(dig (2 ^ w) b).length - 1] ≠ 0 := fun e => hN (by rw [e])
        omega
      have hxB := ok_get (ok_dig hB b) (k := (dig (2 ^ w) b).length - 1) (by omega)
      have hbge := dig_ge_len hB hb0
      have hble : b ≤ a := by omega
      have hmono := dig_mono hB hble
      generalize (dig (2 ^ w) b)[(dig (2 ^ w) b).length - 1] = x at *
      generalize hn : (dig (2 ^ w) b).length = n at *
      generalize hla : (dig (2 ^ w) a).length = la' at *
      refine ev_bits1 hw (push_last _ _) ?_
      obtain ⟨kk, hk, hk1, hk2, hk3⟩ := bitLen_pos hx0 hxB
      simp only [hk, bA, bC, bS, bM, bR, rep1_one, bD, bO, bL, bH, bN, bU, bP, getL_L, upd, Nat.reduceBEq, cond_true, cond_false, getP_some, getT_T, nextP_next, nextP_ret, endP_ret, endP_next, listP_r, tupP_r, intP_i, boolP_b, fnP_f]
      have es : (w : Int) - (kk : Int) = ((w - kk : Nat) : Int) := by omega
      rw [es]
      have hs : w - kk < w := by omega
      have hBs : 2 ^ w = 2 ^ kk * 2 ^ (w - kk) := by rw [← Nat.pow_add]; congr 1; omega
      have hs256 : 2 ^ (w - kk) ≤ 256 := by
        have : 2 ^ (w - kk) ≤ 2 ^ w := Nat.pow_le_pow_right (by decide) (by omega)
        omega
      generalize hsv : w - kk = s at *
      have hb1 : (h ++ [Ob.L [V.int (x : Nat)]])[j]? = some (.L (nl (dig (2 ^ w) b))) := push_get hb
      have ha1 : (h ++ [Ob.L [V.int (x : Nat)]])[i]? = some (.L (nl (dig (2 ^ w) a))) := push_get ha
      have E1 : Ext h (h ++ [Ob.L [V.int (x : Nat)]]) := Ext.push _ _
      generalize h ++ [Ob.L [V.int (x : Nat)]] = h1 at *
      simp (config := { decide := true }) only [qSs0, qSs1, nextP_next, nextP_ret, qS0, qS1, qS2, qS3, qS4, qS5, qS6, qS7, qS8, qS9, qS10, qS11, qS12, tupP_r, getT_T, getP_some, cond_true, cond_false, qE0, qE1, qE2, qE3, qE4, qE5, qE6, qE7, qE8, qE9, qE10, qE11, qE12, qE13, qE14, qE15, qE16, qE17, qE18, qE19, qE20, qE21, qE22, qE23, qE24, qE25, qE26, qEs0, qEs1, qT0, qT1, upd, Nat.reduceBEq, if_true, if_false, List.getElem?_cons_zero, List.getElem?_cons_succ, fnP_f, getL_L, endP_ret, endP_next, listP_r, intP_i, boolP_b]
      have h51 : ro ≤ h1.length := Nat.le_trans h5 E1.len
      refine ev_shl (d := d + 2) hw hs h51 hb1 (by omega) hb0 fun h2 pv E12 hpv hv => ?_
      have ha2 := E12 _ _ ha1
      have h52 : ro ≤ h2.length := Nat.le_trans h51 E12.len
      refine ev_shl (d := d + 2) hw hs h52 ha2 (by omega) (by omega) fun h3 pu E23 hpu hu => ?_
      have ha3 := E23 _ _ ha2
      have hv3 := E23 _ _ hv
      have h53 : ro ≤ h3.length := Nat.le_trans h52 E23.len
      have hpow := Nat.two_pow_pos s
      have hV : b * 2 ^ s < (2 ^ w) ^ n := by
        have h7 : (2 ^ w) ^ (n - 1) * (x + 1) ≤ (2 ^ w) ^ (n - 1) * 2 ^ kk := Nat.mul_le_mul_left _ hk3
        have h8 := Nat.mul_lt_mul_of_pos_right (Nat.lt_of_lt_of_le htop h7) hpow
        rw [Nat.mul_assoc, ← hBs, ← Nat.pow_succ, show (n - 1).succ = n by omega] at h8
        exact h8
      have hvlen : (dig (2 ^ w) (b * 2 ^ s)).length = n := by
        have h7 := dig_len hB hV
        have h8 := dig_mono hB (b := b) (a := b * 2 ^ s) (by have := Nat.mul_le_mul_left b hpow; omega)
        omega
      have halt := dig_lt_len hB a
      rw [hla] at halt
      have hU : a * 2 ^ s < (2 ^ w) ^ (la' + 1) := by
        have h8 := Nat.mul_lt_mul_of_pos_right halt hpow
        have h9 : (2 ^ w) ^ la' * 2 ^ s ≤ (2 ^ w) ^ la' * 2 ^ w := Nat.mul_le_mul_left _ (Nat.pow_le_pow_right (by decide) (by omega))
        rw [Nat.pow_succ]; omega
      have hulen := dig_len hB hU
      have esub : ((la' : Nat) : Int) + 1 - (((dig (2 ^ w) (a * 2 ^ s)).length : Nat) : Int) = ((la' + 1 - (dig (2 ^ w) (a * 2 ^ s)).length : Nat) : Int) := by omega
      simp (config := { decide := true }) only [qSs0, qSs1, nextP_next, nextP_ret, qS0, qS1, qS2, qS3, qS4, qS5, qS6, qS7, qS8, qS9, qS10, qS11, qS12, tupP_r, getT_T, getP_some, cond_true, cond_false, qE0, qE1, qE2, qE3, qE4, qE5, qE6, qE7, qE8, qE9, qE10, qE11, qE12, qE13, qE14, qE15, qE16, qE17, qE18, qE19, qE20, qE21, qE22, qE23, qE24, qE25, qE26, qEs0, qEs1, qT0, qT1, upd, Nat.reduceBEq, if_true, if_false, List.getElem?_cons_zero, List.getElem?_cons_succ, fnP_f, bA, bC, bS, bM, bR, rep1_one, bD, bO, bL, bH, bN, bU, bP, getL_L, listP_r, push_get ha3, push_get hu, push_get (push_get hu), nl_len, hla, push_last, esub, Int.toNat_natCast, rep_nl, endP_ret, endP_next, intP_i, boolP_b]
      refine ⟨⟨by omega, by omega, by omega⟩, ?_⟩
      have hl4 : (h3 ++ [Ob.L [V.int 0]]).length = h3.length + 1 := by simp
      have P2 : ∀ o o', (h3 ++ [o] ++ [o'])[h3.length + 1]? = some o' := fun o o' => by
        have := push_last (h3 ++ [o]) o'
        rw [show (h3 ++ [o]).length = h3.length + 1 by simp] at this
        exact this
      simp only [hl4, P2, push_get (push_get hu), nl_len, List.length_replicate, ← List.map_append]
      refine ⟨by omega, ?_⟩
      generalize hh4 : h3 ++ [Ob.L [V.int 0]] ++ [Ob.L (nl (List.replicate (la' + 1 - (dig (2 ^ w) (a * 2 ^ s)).length) 0))] = h4
      have E34 : Ext h3 h4 := by rw [← hh4]; exact (Ext.push _ _).push' _
      have hul : (dig (2 ^ w) (a * 2 ^ s) ++ List.replicate (la' + 1 - (dig (2 ^ w) (a * 2 ^ s)).length) 0).length = la' + 1 := by simp; omega
      have huv : val (2 ^ w) (dig (2 ^ w) (a * 2 ^ s) ++ List.replicate (la' + 1 - (dig (2 ^ w) (a * 2 ^ s)).length) 0) = a * 2 ^ s := by
        rw [val_append, val_zeros, Nat.mul_zero, Nat.add_zero, val_dig hB]
      have huo : Ok (2 ^ w) (dig (2 ^ w) (a * 2 ^ s) ++ List.replicate (la' + 1 - (dig (2 ^ w) (a * 2 ^ s)).length) 0) := ok_append (ok_dig hB _) (ok_zeros (by omega))
      generalize hu4 : dig (2 ^ w) (a * 2 ^ s) ++ List.replicate (la' + 1 - (dig (2 ^ w) (a * 2 ^ s)).length) 0 = u at *
      have hpv4 : pv < h4.length := lt_of_get (E34 _ _ hv3)
      have hvt : 0 < (dig (2 ^ w) (b * 2 ^ s))[(dig (2 ^ w) (b * 2 ^ s)).length - 1]'(by omega) := by
        have hN := nrm_dig hB (b * 2 ^ s)
        unfold Nrm at hN
        rw [List.getLast?_eq_getElem?, List.getElem?_eq_getElem (by omega)] at hN
        have : (dig (2 ^ w) (b * 2 ^ s))[(dig (2 ^ w) (b * 2 ^ s)).length - 1]'(by omega) ≠ 0 := fun e => hN (by rw [e])
        omega
      refine ev_dividerows (d := d + 1) hw (Nat.ne_of_gt hpv4) (Nat.le_trans h53 E34.len) (push_last _ _) (push_get (E34 _ _ hv3)) huo (ok_dig hB _) (by omega) (by omega) (by omega) hvt ?_ fun h5' kq u' qs hEB hlen5 hkq hq hu5 ou' oq hval hlt5 => ?_
      · rw [huv, val_dig hB, hul, hvlen]
        have h8 : a < b * (2 ^ w) ^ (la' + 1 - n) := by
          have h9 := Nat.mul_le_mul_right ((2 ^ w) ^ (la' + 1 - n)) hbge
          rw [← Nat.pow_add, show n - 1 + (la' + 1 - n) = la' by omega] at h9
          omega
        have := Nat.mul_lt_mul_of_pos_right h8 hpow
        rw [Nat.mul_right_comm b]; exact this
      · rw [huv, val_dig hB] at hval
        rw [val_dig hB] at hlt5
        have hb2 : 0 < b * 2 ^ s := Nat.mul_pos hb0 hpow
        have hq1 : val (2 ^ w) qs = a / b := by
          have : (a * 2 ^ s) / (b * 2 ^ s) = val (2 ^ w) qs := by
            rw [← hval, Nat.add_comm, Nat.mul_add_div hb2, Nat.div_eq_of_lt hlt5, Nat.add_zero]
          rw [← this, Nat.mul_div_mul_right _ _ hpow]
        have hr1 : val (2 ^ w) u' = (a % b) * 2 ^ s := by
          have : (a * 2 ^ s) % (b * 2 ^ s) = val (2 ^ w) u' := by
            rw [← hval, Nat.add_comm, Nat.mul_add_mod, Nat.mod_eq_of_lt hlt5]
          rw [← this, Nat.mul_mod_mul_right]
        have E05 : Ext h h5' := fun t o e => hEB t o (by
          have h6 := lt_of_get e
          have h7 := E34.len
          have h8 := E23.len
          have h9 := E12.len
          have h10 := E1.len
          omega) (push_get (E34 _ _ (E23 _ _ (E12 _ _ (E1 _ _ e)))))
        refine ev_normal hB oq hq ?_
        rw [hq1]
        refine ev_normal hB ou' (push_get hu5) ?_
        rw [hr1]
        have hlen05 := E05.len
        refine ev_shr (d := d + 1) hw hs ?_ (push_last _ _) ?_ fun h7 kr E57 hkr hr => ?_
        · have := E05.len
          simp; omega
        · have h8 : a % b < b := Nat.mod_lt _ hb0
          have h9 := Nat.mul_le_mul (Nat.le_of_lt h8) hs256
          omega
        · refine K _ _ h5'.length kr ((E05.push' _).push' _ |>.trans E57 |>.push' _) ?_ hlen05 (by simp at hkr; omega) (push_last _ _) (push_get (E57 _ _ (push_get (push_last _ _)))) (push_get hr)
          have h8 := E05.len
          have h9 := E57.len
          simp at h9
          omega
end Mine

set_option linter.unusedVariables false
set_option linter.unusedSimpArgs false
set_option autoImplicit false
set_option maxRecDepth 8000
namespace Mine
open PySem

/-! ## signed numbers -/
/-- v stands for z; none of its objects lies among P -/
noncomputable def IsI (P : Nat → Prop) (w : Nat) (h : Hp) (v : V) (z : Int) : Prop :=
  ∃ k m, v = .ref k ∧ h[k]? = some (.T [.bool (decide (z < 0)), .ref m]) ∧ h[m]? = some (.L (nl (dig (2 ^ w) z.natAbs))) ∧ ¬ P k ∧ ¬ P m
theorem IsI.ext {P : Nat → Prop} {w : Nat} {h h' : Hp} {v : V} {z : Int} (x : IsI P w h v z) (e : Ext h h') : IsI P w h' v z := by
  obtain ⟨k, m, rfl, h1, h2, n⟩ := x
  exact ⟨k, m, rfl, e _ _ h1, e _ _ h2, n⟩
theorem IsI.set {P : Nat → Prop} {w : Nat} {h : Hp} {v : V} {z : Int} (x : IsI P w h v z) {a : Nat} (ha : P a) (o : Ob) : IsI P w (h.set a o) v z := by
  obtain ⟨k, m, rfl, h1, h2, n1, n2⟩ := x
  exact ⟨k, m, rfl, set_ne h1 fun e => n1 (e ▸ ha), set_ne h2 fun e => n2 (e ▸ ha), n1, n2⟩
theorem IsI.grow {P : Nat → Prop} {w : Nat} {h : Hp} {v : V} {z : Int} (x : IsI P w h v z) {a : Nat} (ha : h.length ≤ a) : IsI (fun b => P b ∨ b = a) w h v z := by
  obtain ⟨k, m, rfl, h1, h2, n1, n2⟩ := x
  have l1 := lt_of_get h1
  have l2 := lt_of_get h2
  refine ⟨k, m, rfl, h1, h2, fun e => ?_, fun e => ?_⟩
  · rcases e with e | e
    · exact n1 e
    · omega
  · rcases e with e | e
    · exact n2 e
    · omega
theorem IsI.shrink {P P' : Nat → Prop} {w : Nat} {h : Hp} {v : V} {z : Int} (x : IsI P w h v z) (hp : ∀ a, P' a → P a) : IsI P' w h v z := by
  obtain ⟨k, m, rfl, h1, h2, n1, n2⟩ := x
  exact ⟨k, m, rfl, h1, h2, fun e => n1 (hp _ e), fun e => n2 (hp _ e)⟩
noncomputable def Old (P : Nat → Prop) (h : Hp) : Prop := ∀ a, P a → a < h.length
theorem Old.ext {P : Nat → Prop} {h h' : Hp} (x : Old P h) (e : Ext h h') : Old P h' := fun a ha => Nat.lt_of_lt_of_le (x a ha) e.len
theorem Old.fresh {P : Nat → Prop} {h : Hp} (x : Old P h) {k : Nat} (hk : h.length ≤ k) : ¬ P k := fun e => by have := x k e; omega
theorem ix_t0 {k : Nat} {a b : V} {h : Hp} {KK : V → Prop} (e : h[k]? = some (.T [a, b])) (K : KK a) : ixP (.ref k) (.int 0) h KK := by
  simp only [iX, ixO_L, ixO_T, getP_some, e, getL_L, getT_T, nextP_next, nextP_ret, endP_ret, endP_next, cond_true, cond_false, listP_r, tupP_r, intP_i, boolP_b, fnP_f]
  exact ⟨⟨by decide, by simp⟩, K⟩
theorem ix_t1 {k : Nat} {a b : V} {h : Hp} {KK : V → Prop} (e : h[k]? = some (.T [a, b])) (K : KK b) : ixP (.ref k) (.int 1) h KK := by
  simp only [iX, ixO_L, ixO_T, getP_some, e, getL_L, getT_T, nextP_next, nextP_ret, endP_ret, endP_next, cond_true, cond_false, listP_r, tupP_r, intP_i, boolP_b, fnP_f]
  exact ⟨⟨by decide, by simp⟩, K⟩
noncomputable def sm (z : Int) : Prop := z.natAbs < 2 ^ 90
theorem sm_lim {n : Nat} (h : n < 2 ^ 90) : n * 256 < lim := by
  have : (2 : Nat) ^ 90 * 256 ≤ lim := by decide
  omega
theorem sm_lim' {n : Nat} (h : n < 2 ^ 90) : n < lim := by have := sm_lim h; omega

theorem ev_signed {P : Nat → Prop} {d w m n : Nat} {neg : Bool} {h : Hp} {Q : KV} (hw : WW w) (hP : Old P h) (hm : h[m]? = some (.L (nl (dig (2 ^ w) n)))) (hPm : ¬ P m) (K : ∀ h' v, Ext h h' → IsI P w h' v (if neg = true then -(n : Int) else n) → Q v h') :
    callD prg (d + 1) 121 [.bool neg, .ref m] h Q := by
  have p1 : prg 121 = some (2, p_signed) := rfl
  have hB := hw.two
  have hl := dig_len0 hB n
  rw [callD_succ, p1]
  simp (config := { decide := true }) only [List.length_cons, List.length_nil, true_and, p_signed, qSs0, qSs1, nextP_next, nextP_ret, qS0, qS1, qS2, qS3, qS4, qS5, qS6, qS7, qS8, qS9, qS10, qS11, qS12, tupP_r, getT_T, getP_some, cond_true, cond_false, qE0, qE1, qE2, qE3, qE4, qE5, qE6, qE7, qE8, qE9, qE10, qE11, qE12, qE13, qE14, qE15, qE16, qE17, qE18, qE19, qE20, qE21, qE22, qE23, qE24, qE25, qE26, qEs0, qEs1, List.getElem?_cons_zero, List.getElem?_cons_succ, listP_r, getL_L, hm, nl_len, cQ, cN, cL, cM, cG, cH, cX, cY, cR, boolP_b, endP_ret, endP_next, intP_i, fnP_f]
  cases neg with
  | true =>
    simp only [if_true, cond_true, getP_some, getL_L, getT_T, nextP_next, nextP_ret, endP_ret, endP_next, cond_false, listP_r, tupP_r, intP_i, boolP_b, fnP_f] at K ⊢
    by_cases h0 : n = 0
    · have e : decide ((0 : Int) < (((dig (2 ^ w) n).length : Nat) : Int)) = false := by rw [decide_eq_false_iff_not]; omega
      rw [e]
      refine K _ _ (Ext.push _ _) ⟨h.length, m, rfl, ?_, ?_, hP.fresh (Nat.le_refl _), hPm⟩
      · rw [push_last, h0]; rfl
      · rw [push_get hm, h0]; rfl
    · have e : decide ((0 : Int) < (((dig (2 ^ w) n).length : Nat) : Int)) = true := by rw [decide_eq_true_iff]; omega
      rw [e]
      refine K _ _ (Ext.push _ _) ⟨h.length, m, rfl, ?_, ?_, hP.fresh (Nat.le_refl _), hPm⟩
      · rw [push_last, decide_eq_true (by omega)]
      · rw [push_get hm, show (-(n : Int)).natAbs = n by omega]
  | false =>
    simp (config := { decide := true }) only [if_false, cond_false, getP_some, getL_L, getT_T, nextP_next, nextP_ret, endP_ret, endP_next, cond_true, listP_r, tupP_r, intP_i, boolP_b, fnP_f] at K ⊢
    refine K _ _ (Ext.push _ _) ⟨h.length, m, rfl, ?_, ?_, hP.fresh (Nat.le_refl _), hPm⟩
    · rw [push_last, decide_eq_false (by omega)]
    · rw [push_get hm, show ((n : Int)).natAbs = n by omega]

theorem ev_sneg {P : Nat → Prop} {d w : Nat} {v : V} {z : Int} {h : Hp} {Q : KV} (hw : WW w) (hP : Old P h) (hv : IsI P w h v z) (K : ∀ h' v', Ext h h' → IsI P w h' v' (-z) → Q v' h') : callD prg (d + 2) 128 [v] h Q := by
  have p1 : prg 128 = some (1, p_s_neg) := rfl
  obtain ⟨k, m, rfl, h1, h2, n1, n2⟩ := hv
  rw [callD_succ, p1]
  simp (config := { decide := true }) only [List.length_cons, List.length_nil, true_and, p_s_neg, qSs0, qSs1, nextP_next, nextP_ret, qS0, qS1, qS2, qS3, qS4, qS5, qS6, qS7, qS8, qS9, qS10, qS11, qS12, tupP_r, getT_T, getP_some, cond_true, cond_false, qE0, qE1, qE2, qE3, qE4, qE5, qE6, qE7, qE8, qE9, qE10, qE11, qE12, qE13, qE14, qE15, qE16, qE17, qE18, qE19, qE20, qE21, qE22, qE23, qE24, qE25, qE26, qEs0, qEs1, List.getElem?_cons_zero, List.getElem?_cons_succ, fnP_f, getL_L, endP_ret, endP_next, listP_r, intP_i, boolP_b]
  refine ix_t0 h1 ?_
  simp only [boolP_b, getP_some, getL_L, getT_T, nextP_next, nextP_ret, endP_ret, endP_next, cond_true, cond_false, listP_r, tupP_r, intP_i, fnP_f]
  refine ix_t1 h1 ?_
  refine ev_signed hw hP h2 n2 fun h' v' E x => K h' v' E ?_
  have e : (if (!decide (z < 0)) = true then -(z.natAbs : Int) else (z.natAbs : Int)) = -z := by
    by_cases hz : z < 0
    · simp [hz]; omega
    · simp [hz]; omega
  rw [e] at x; exact x

theorem ev_ssign {P : Nat → Prop} {d w : Nat} {v : V} {z : Int} {h : Hp} {Q : KV} (hw : WW w) (hv : IsI P w h v z) (K : ∀ c : Int, (c = 0 ↔ z = 0) → Q (.int c) h) : callD prg (d + 1) 135 [v] h Q := by
  have p1 : prg 135 = some (1, p_s_sign) := rfl
  obtain ⟨k, m, rfl, h1, h2, n1, n2⟩ := hv
  have hB := hw.two
  have hl := dig_len0 hB z.natAbs
  rw [callD_succ, p1]
  simp (config := { decide := true }) only [List.length_cons, List.length_nil, true_and, p_s_sign, qSs0, qSs1, nextP_next, nextP_ret, qS0, qS1, qS2, qS3, qS4, qS5, qS6, qS7, qS8, qS9, qS10, qS11, qS12, tupP_r, getT_T, getP_some, cond_true, cond_false, qE0, qE1, qE2, qE3, qE4, qE5, qE6, qE7, qE8, qE9, qE10, qE11, qE12, qE13, qE14, qE15, qE16, qE17, qE18, qE19, qE20, qE21, qE22, qE23, qE24, qE25, qE26, qEs0, qEs1, List.getElem?_cons_zero, List.getElem?_cons_succ, fnP_f, getL_L, endP_ret, endP_next, listP_r, intP_i, boolP_b]
  refine ix_t1 h1 ?_
  simp only [listP_r, getL_L, h2, nl_len, cQ, cN, cL, cM, cG, cH, cX, cY, cR, boolP_b, getP_some, getT_T, nextP_next, nextP_ret, endP_ret, endP_next, cond_true, cond_false, tupP_r, intP_i, fnP_f]
  by_cases hz : z = 0
  · have e : ((((dig (2 ^ w) z.natAbs).length : Nat) : Int) == 0) = true := by rw [beq_iff_eq]; omega
    rw [e]
    simp only [if_true, cond_true, qSs0, qSs1, nextP_next, nextP_ret, qS0, qS1, qS2, qS3, qS4, qS5, qS6, qS7, qS8, qS9, qS10, qS11, qS12, tupP_r, getT_T, getP_some, cond_false, qE0, qE1, qE2, qE3, qE4, qE5, qE6, qE7, qE8, qE9, qE10, qE11, qE12, qE13, qE14, qE15, qE16, qE17, qE18, qE19, qE20, qE21, qE22, qE23, qE24, qE25, qE26, getL_L, endP_ret, endP_next, listP_r, intP_i, boolP_b, fnP_f]
    exact K 0 ⟨fun _ => hz, fun _ => rfl⟩
  · have e : ((((dig (2 ^ w) z.natAbs).length : Nat) : Int) == 0) = false := by rw [beq_eq_false_iff_ne]; omega
    rw [e]
    simp (config := { decide := true }) only [if_false, cond_false, qSs0, qSs1, nextP_next, nextP_ret, qS0, qS1, qS2, qS3, qS4, qS5, qS6, qS7, qS8, qS9, qS10, qS11, qS12, tupP_r, getT_T, getP_some, cond_true, qE0, qE1, qE2, qE3, qE4, qE5, qE6, qE7, qE8, qE9, qE10, qE11, qE12, qE13, qE14, qE15, qE16, qE17, qE18, qE19, qE20, qE21, qE22, qE23, qE24, qE25, qE26, List.getElem?_cons_zero, getL_L, endP_ret, endP_next, listP_r, intP_i, boolP_b, fnP_f]
    refine ix_t0 h1 ?_
    simp only [boolP_b, getP_some, getL_L, getT_T, nextP_next, nextP_ret, endP_ret, endP_next, cond_true, cond_false, listP_r, tupP_r, intP_i, fnP_f]
    by_cases hz0 : z < 0
    · rw [decide_eq_true hz0]
      exact K _ ⟨fun e => by omega, fun e => absurd e hz⟩
    · rw [decide_eq_false hz0]
      exact K _ ⟨fun e => by omega, fun e => absurd e hz⟩

theorem ev_sadd {P : Nat → Prop} {d w : Nat} {va vb : V} {a b : Int} {h : Hp} {Q : KV} (hw : WW w) (hP : Old P h) (h5 : ro ≤ h.length) (ha : IsI P w h va a) (hb : IsI P w h vb b) (sa : sm a) (sb : sm b) (K : ∀ h' v', Ext h h' → IsI P w h' v' (a + b) → Q v' h') :
    callD prg (d + 3) 142 [va, vb, .int (w : Int)] h Q := by
  have p1 : prg 142 = some (3, p_s_add) := rfl
  have hB := hw.two
  obtain ⟨k, m, rfl, a1, a2, na1, na2⟩ := ha
  obtain ⟨k', m', rfl, b1, b2, nb1, nb2⟩ := hb
  have la := sm_lim' sa
  have lb := sm_lim' sb
  rw [callD_succ, p1]
  simp (config := { decide := true }) only [List.length_cons, List.length_nil, true_and, p_s_add, qSs0, qSs1, nextP_next, nextP_ret, qS0, qS1, qS2, qS3, qS4, qS5, qS6, qS7, qS8, qS9, qS10, qS11, qS12, tupP_r, getT_T, getP_some, cond_true, cond_false, qE0, qE1, qE2, qE3, qE4, qE5, qE6, qE7, qE8, qE9, qE10, qE11, qE12, qE13, qE14, qE15, qE16, qE17, qE18, qE19, qE20, qE21, qE22, qE23, qE24, qE25, qE26, qEs0, qEs1, List.getElem?_cons_zero, List.getElem?_cons_succ, fnP_f, getL_L, endP_ret, endP_next, listP_r, intP_i, boolP_b]
  refine ix_t0 a1 (ix_t0 b1 ?_)
  simp only [cQ, cN, cL, cM, cG, cH, cX, cY, cR, boolP_b, getP_some, getL_L, getT_T, nextP_next, nextP_ret, endP_ret, endP_next, cond_true, cond_false, listP_r, tupP_r, intP_i, fnP_f]
  by_cases hs : decide (a < 0) = decide (b < 0)
  · have e : (decide (a < 0) == decide (b < 0)) = true := by rw [hs]; simp
    rw [e]
    simp (config := { decide := true }) only [if_true, cond_true, qSs0, qSs1, nextP_next, nextP_ret, qS0, qS1, qS2, qS3, qS4, qS5, qS6, qS7, qS8, qS9, qS10, qS11, qS12, tupP_r, getT_T, getP_some, cond_false, qE0, qE1, qE2, qE3, qE4, qE5, qE6, qE7, qE8, qE9, qE10, qE11, qE12, qE13, qE14, qE15, qE16, qE17, qE18, qE19, qE20, qE21, qE22, qE23, qE24, qE25, qE26, qEs0, qEs1, List.getElem?_cons_zero, List.getElem?_cons_succ, fnP_f, getL_L, endP_ret, endP_next, listP_r, intP_i, boolP_b]
    refine ix_t0 a1 (ix_t1 a1 (ix_t1 b1 ?_))
    refine ev_add hw h5 a2 b2 la lb fun h' kk E hk hr => ?_
    refine ev_signed hw (hP.ext E) hr (hP.fresh hk) fun h'' v' E' x => K h'' v' (E.trans E') ?_
    have e : (if decide (a < 0) = true then -((a.natAbs + b.natAbs : Nat) : Int) else ((a.natAbs + b.natAbs : Nat) : Int)) = a + b := by
      by_cases h0 : a < 0
      · have h0' : b < 0 := by simpa [h0] using hs
        rw [if_pos (by simpa using h0)]; omega
      · have h0' : ¬ b < 0 := by simpa [h0] using hs
        rw [if_neg (by simpa using h0)]; omega
    rw [e] at x; exact x
  · have e : (decide (a < 0) == decide (b < 0)) = false := by simpa using hs
    rw [e]
    simp (config := { decide := true }) only [if_false, cond_false, qSs0, qSs1, nextP_next, nextP_ret, qS0, qS1, qS2, qS3, qS4, qS5, qS6, qS7, qS8, qS9, qS10, qS11, qS12, tupP_r, getT_T, getP_some, cond_true, qE0, qE1, qE2, qE3, qE4, qE5, qE6, qE7, qE8, qE9, qE10, qE11, qE12, qE13, qE14, qE15, qE16, qE17, qE18, qE19, qE20, qE21, qE22, qE23, qE24, qE25, qE26, qEs0, qEs1, List.getElem?_cons_zero, List.getElem?_cons_succ, fnP_f, getL_L, endP_ret, endP_next, listP_r, intP_i, boolP_b]
    refine ix_t1 a1 (ix_t1 b1 ?_)
    refine ev_compare hB a2 b2 la lb fun c hc => ?_
    simp only [cQ, cN, cL, cM, cG, cH, cX, cY, cR, boolP_b, getP_some, getL_L, getT_T, nextP_next, nextP_ret, endP_ret, endP_next, cond_true, cond_false, listP_r, tupP_r, intP_i, fnP_f]
    by_cases hlt : a.natAbs < b.natAbs
    · rw [decide_eq_true (by omega)]
      simp (config := { decide := true }) only [if_true, cond_true, qSs0, qSs1, nextP_next, nextP_ret, qS0, qS1, qS2, qS3, qS4, qS5, qS6, qS7, qS8, qS9, qS10, qS11, qS12, tupP_r, getT_T, getP_some, cond_false, qE0, qE1, qE2, qE3, qE4, qE5, qE6, qE7, qE8, qE9, qE10, qE11, qE12, qE13, qE14, qE15, qE16, qE17, qE18, qE19, qE20, qE21, qE22, qE23, qE24, qE25, qE26, qEs0, qEs1, List.getElem?_cons_zero, List.getElem?_cons_succ, fnP_f, getL_L, endP_ret, endP_next, listP_r, intP_i, boolP_b]
      refine ix_t0 b1 (ix_t1 b1 (ix_t1 a1 ?_))
      refine ev_sub hw h5 b2 a2 lb (by omega) fun h' kk E hk hr => ?_
      refine ev_signed hw (hP.ext E) hr (hP.fresh hk) fun h'' v' E' x => K h'' v' (E.trans E') ?_
      have e : (if decide (b < 0) = true then -((b.natAbs - a.natAbs : Nat) : Int) else ((b.natAbs - a.natAbs : Nat) : Int)) = a + b := by
        by_cases h0 : b < 0
        · have h0' : ¬ a < 0 := by intro h; apply hs; simp [h0, h]
          rw [if_pos (by simpa using h0)]; omega
        · have h0' : a < 0 := by
            by_cases h : a < 0
            · exact h
            · exact absurd (by simp [h0, h]) hs
          rw [if_neg (by simpa using h0)]; omega
      rw [e] at x; exact x
    · rw [decide_eq_false (by omega)]
      simp (config := { decide := true }) only [if_false, cond_false, qSs0, qSs1, nextP_next, nextP_ret, qS0, qS1, qS2, qS3, qS4, qS5, qS6, qS7, qS8, qS9, qS10, qS11, qS12, tupP_r, getT_T, getP_some, cond_true, qE0, qE1, qE2, qE3, qE4, qE5, qE6, qE7, qE8, qE9, qE10, qE11, qE12, qE13, qE14, qE15, qE16, qE17, qE18, qE19, qE20, qE21, qE22, qE23, qE24, qE25, qE26, qEs0, qEs1, List.getElem?_cons_zero, List.getElem?_cons_succ, fnP_f, getL_L, endP_ret, endP_next, listP_r, intP_i, boolP_b]
      refine ix_t0 a1 (ix_t1 a1 (ix_t1 b1 ?_))
      refine ev_sub hw h5 a2 b2 la (by omega) fun h' kk E hk hr => ?_
      refine ev_signed hw (hP.ext E) hr (hP.fresh hk) fun h'' v' E' x => K h'' v' (E.trans E') ?_
      have e : (if decide (a < 0) = true then -((a.natAbs - b.natAbs : Nat) : Int) else ((a.natAbs - b.natAbs : Nat) : Int)) = a + b := by
        by_cases h0 : a < 0
        · have h0' : ¬ b < 0 := by intro h; apply hs; simp [h0, h]
          rw [if_pos (by simpa using h0)]; omega
        · have h0' : b < 0 := by
            by_cases h : b < 0
            · exact h
            · exact absurd (by simp [h0, h]) hs
          rw [if_neg (by simpa using h0)]; omega
      rw [e] at x; exact x

theorem ev_ssub {P : Nat → Prop} {d w : Nat} {va vb : V} {a b : Int} {h : Hp} {Q : KV} (hw : WW w) (hP : Old P h) (h5 : ro ≤ h.length) (ha : IsI P w h va a) (hb : IsI P w h vb b) (sa : sm a) (sb : sm b) (K : ∀ h' v', Ext h h' → IsI P w h' v' (a - b) → Q v' h') :
    callD prg (d + 4) 149 [va, vb, .int (w : Int)] h Q := by
  have p1 : prg 149 = some (3, p_s_sub) := rfl
  rw [callD_succ, p1]
  simp (config := { decide := true }) only [List.length_cons, List.length_nil, true_and, p_s_sub, qSs0, qSs1, nextP_next, nextP_ret, qS0, qS1, qS2, qS3, qS4, qS5, qS6, qS7, qS8, qS9, qS10, qS11, qS12, tupP_r, getT_T, getP_some, cond_true, cond_false, qE0, qE1, qE2, qE3, qE4, qE5, qE6, qE7, qE8, qE9, qE10, qE11, qE12, qE13, qE14, qE15, qE16, qE17, qE18, qE19, qE20, qE21, qE22, qE23, qE24, qE25, qE26, qEs0, qEs1, List.getElem?_cons_zero, List.getElem?_cons_succ, fnP_f, getL_L, endP_ret, endP_next, listP_r, intP_i, boolP_b]
  refine ev_sneg (d := d + 1) hw hP hb fun h' v' E x => ?_
  refine ev_sadd hw (hP.ext E) (Nat.le_trans h5 E.len) (ha.ext E) x sa (by unfold sm at *; omega) fun h'' v'' E' y => K h'' v'' (E.trans E') ?_
  rw [Int.sub_eq_add_neg]; exact y

theorem ev_smul {P : Nat → Prop} {d w : Nat} {va vb : V} {a b : Int} {h : Hp} {Q : KV} (hw : WW w) (hP : Old P h) (h5 : ro ≤ h.length) (ha : IsI P w h va a) (hb : IsI P w h vb b) (sa : sm a) (sb : sm b) (K : ∀ h' v', Ext h h' → IsI P w h' v' (a * b) → Q v' h') :
    callD prg (d + 3) 156 [va, vb, .int (w : Int), .fn 212] h Q := by
  have p1 : prg 156 = some (4, p_s_mul) := rfl
  obtain ⟨k, m, rfl, a1, a2, na1, na2⟩ := ha
  obtain ⟨k', m', rfl, b1, b2, nb1, nb2⟩ := hb
  rw [callD_succ, p1]
  simp (config := { decide := true }) only [List.length_cons, List.length_nil, true_and, p_s_mul, qSs0, qSs1, nextP_next, nextP_ret, qS0, qS1, qS2, qS3, qS4, qS5, qS6, qS7, qS8, qS9, qS10, qS11, qS12, tupP_r, getT_T, getP_some, cond_true, cond_false, qE0, qE1, qE2, qE3, qE4, qE5, qE6, qE7, qE8, qE9, qE10, qE11, qE12, qE13, qE14, qE15, qE16, qE17, qE18, qE19, qE20, qE21, qE22, qE23, qE24, qE25, qE26, qEs0, qEs1, List.getElem?_cons_zero, List.getElem?_cons_succ, fnP_f, getL_L, endP_ret, endP_next, listP_r, intP_i, boolP_b]
  refine ix_t0 a1 (ix_t0 b1 ?_)
  simp only [cQ, cN, cL, cM, cG, cH, cX, cY, cR, getP_some, getL_L, getT_T, nextP_next, nextP_ret, endP_ret, endP_next, cond_true, cond_false, listP_r, tupP_r, intP_i, boolP_b, fnP_f]
  refine ix_t1 a1 (ix_t1 b1 ?_)
  refine ev_mul hw h5 a2 b2 (sm_lim' sa) (sm_lim' sb) fun h' kk E hk hr => ?_
  refine ev_signed hw (hP.ext E) hr (hP.fresh hk) fun h'' v' E' x => K h'' v' (E.trans E') ?_
  have e : (if (decide (a < 0) != decide (b < 0)) = true then -((a.natAbs * b.natAbs : Nat) : Int) else ((a.natAbs * b.natAbs : Nat) : Int)) = a * b := by
    rw [Int.natCast_mul]
    by_cases h0 : a < 0 <;> by_cases h1 : b < 0
    · rw [if_neg (by simp [h0, h1])]
      rw [show (a.natAbs : Int) = -a by omega, show (b.natAbs : Int) = -b by omega, Int.neg_mul_neg]
    · rw [if_pos (by simp [h0, h1])]
      rw [show (a.natAbs : Int) = -a by omega, show (b.natAbs : Int) = b by omega, Int.neg_mul, Int.neg_neg]
    · rw [if_pos (by simp [h0, h1])]
      rw [show (a.natAbs : Int) = a by omega, show (b.natAbs : Int) = -b by omega, Int.mul_neg, Int.neg_neg]
    · rw [if_neg (by simp [h0, h1])]
      rw [show (a.natAbs : Int) = a by omega, show (b.natAbs : Int) = b by omega]
  rw [e] at x; exact x

theorem ev_exact {P : Nat → Prop} {d w : Nat} {va vb : V} {a b q : Int} {h : Hp} {Q : KV} (hw : WW w) (hP : Old P h) (h5 : ro ≤ h.length) (ha : IsI P w h va a) (hb : IsI P w h vb b) (sa : sm a) (sb : sm b) (hb0 : b ≠ 0) (hq : a = q * b)
    (K : ∀ h' v', Ext h h' → IsI P w h' v' q → Q v' h') : callD prg (d + 6) 179 [va, vb, .int (w : Int), .fn 254] h Q := by
  have p1 : prg 179 = some (4, p_exact) := rfl
  have p2 : prg 163 = some (4, p_tdiv) := rfl
  have hB := hw.two
  obtain ⟨k, m, rfl, a1, a2, na1, na2⟩ := ha
  obtain ⟨k', m', rfl, b1, b2, nb1, nb2⟩ := hb
  have hl := dig_len0 hB b.natAbs
  rw [callD_succ, p1]
  simp (config := { decide := true }) only [List.length_cons, List.length_nil, true_and, p_exact, qSs0, qSs1, nextP_next, nextP_ret, qS0, qS1, qS2, qS3, qS4, qS5, qS6, qS7, qS8, qS9, qS10, qS11, qS12, tupP_r, getT_T, getP_some, cond_true, cond_false, qE0, qE1, qE2, qE3, qE4, qE5, qE6, qE7, qE8, qE9, qE10, qE11, qE12, qE13, qE14, qE15, qE16, qE17, qE18, qE19, qE20, qE21, qE22, qE23, qE24, qE25, qE26, qEs0, qEs1, List.getElem?_cons_zero, List.getElem?_cons_succ, fnP_f, getL_L, endP_ret, endP_next, listP_r, intP_i, boolP_b]
  rw [callD_succ, p2]
  simp (config := { decide := true }) only [List.length_cons, List.length_nil, true_and, p_tdiv, qSs0, qSs1, nextP_next, nextP_ret, qS0, qS1, qS2, qS3, qS4, qS5, qS6, qS7, qS8, qS9, qS10, qS11, qS12, tupP_r, getT_T, getP_some, cond_true, cond_false, qE0, qE1, qE2, qE3, qE4, qE5, qE6, qE7, qE8, qE9, qE10, qE11, qE12, qE13, qE14, qE15, qE16, qE17, qE18, qE19, qE20, qE21, qE22, qE23, qE24, qE25, qE26, qEs0, qEs1, List.getElem?_cons_zero, List.getElem?_cons_succ, fnP_f, getL_L, endP_ret, endP_next, listP_r, intP_i, boolP_b]
  refine ix_t1 b1 ?_
  have e0 : ((((dig (2 ^ w) b.natAbs).length : Nat) : Int) == 0) = false := by rw [beq_eq_false_iff_ne]; omega
  simp only [listP_r, getL_L, b2, nl_len, cQ, cN, cL, cM, cG, cH, cX, cY, cR, boolP_b, e0, getP_some, getT_T, nextP_next, nextP_ret, endP_ret, endP_next, cond_true, cond_false, tupP_r, intP_i, fnP_f]
  refine ix_t1 a1 (ix_t1 b1 ?_)
  refine ev_divrem (d := d) hw h5 a2 b2 (sm_lim sa) (sm_lim sb) (by omega) fun h' kk qq rr E hkk hqge hrge ht hqq hrr => ?_
  simp (config := { decide := true }) only [ht, List.map, qTs0, qTs1, qT0, qT1, upd, Nat.reduceBEq, cond_true, cond_false, if_true, if_false, qE0, qE1, qE2, qE3, qE4, qE5, qE6, qE7, qE8, qE9, qE10, qE11, qE12, qE13, qE14, qE15, qE16, qE17, qE18, qE19, qE20, qE21, qE22, qE23, qE24, qE25, qE26, getP_some, qEs0, qEs1, List.getElem?_cons_zero, List.getElem?_cons_succ, fnP_f, getL_L, getT_T, nextP_next, nextP_ret, endP_ret, endP_next, listP_r, tupP_r, intP_i, boolP_b]
  refine ix_t0 (E _ _ a1) (ix_t0 (E _ _ b1) ?_)
  simp only [cQ, cN, cL, cM, cG, cH, cX, cY, cR, getP_some, getL_L, getT_T, nextP_next, nextP_ret, endP_ret, endP_next, cond_true, cond_false, listP_r, tupP_r, intP_i, boolP_b, fnP_f]
  refine ev_signed (d := d + 3) hw (hP.ext E) hqq (hP.fresh hqge) fun h2 v2 E2 x => ?_
  refine ix_t0 (E2 _ _ (E _ _ a1)) ?_
  refine ev_signed (d := d + 3) hw ((hP.ext E).ext E2) (E2 _ _ hrr) (hP.fresh hrge) fun h3 v3 E3 y => ?_
  simp (config := { decide := true }) only [push_last, qTs0, qTs1, qT0, qT1, upd, Nat.reduceBEq, cond_true, cond_false, if_true, if_false, List.map, getP_some, getL_L, getT_T, nextP_next, nextP_ret, endP_ret, endP_next, listP_r, tupP_r, intP_i, boolP_b, fnP_f]
  refine K _ _ ((E.trans E2).trans (E3.push' _)) ?_
  have e : (if (decide (a < 0) != decide (b < 0)) = true then -((a.natAbs / b.natAbs : Nat) : Int) else ((a.natAbs / b.natAbs : Nat) : Int)) = q := by
    have hab : a.natAbs / b.natAbs = q.natAbs := by
      rw [hq, Int.natAbs_mul, Nat.mul_div_cancel _ (by omega)]
    rw [hab]
    rcases Int.lt_trichotomy q 0 with h0 | h0 | h0
    · by_cases hb1 : b < 0
      · have : 0 < q * b := Int.mul_pos_of_neg_of_neg h0 hb1
        rw [if_pos (by simp [hb1]; omega)]; omega
      · have : q * b < 0 := Int.mul_neg_of_neg_of_pos h0 (by omega)
        rw [if_pos (by simp [hb1]; omega)]; omega
    · subst h0; simp
    · by_cases hb1 : b < 0
      · have : q * b < 0 := Int.mul_neg_of_pos_of_neg h0 hb1
        rw [if_neg (by simp [hb1]; omega)]; omega
      · have : 0 < q * b := Int.mul_pos h0 (by omega)
        rw [if_neg (by simp [hb1]; omega)]; omega
  rw [e] at x
  exact x.ext (E3.push' _)
end Mine

set_option linter.unusedVariables false
set_option linter.unusedSimpArgs false
set_option autoImplicit false
set_option maxRecDepth 8000
namespace Mine
open PySem

noncomputable def IsRow (P : Nat → Prop) (w : Nat) (h : Hp) (v : V) (n : Nat) (f : Nat → Int) : Prop :=
  ∃ k vs, v = .ref k ∧ ¬ P k ∧ h[k]? = some (.L vs) ∧ vs.length = n ∧ ∀ j, j < n → ∃ x, vs[j]? = some x ∧ IsI P w h x (f j)
theorem IsRow.ext {P : Nat → Prop} {w : Nat} {h h' : Hp} {v : V} {n : Nat} {f : Nat → Int} (x : IsRow P w h v n f) (e : Ext h h') : IsRow P w h' v n f := by
  obtain ⟨k, vs, rfl, nk, h1, h2, h3⟩ := x
  refine ⟨k, vs, rfl, nk, e _ _ h1, h2, fun j hj => ?_⟩
  obtain ⟨x, e1, e2⟩ := h3 j hj
  exact ⟨x, e1, e2.ext e⟩
theorem IsRow.set {P : Nat → Prop} {w : Nat} {h : Hp} {v : V} {n : Nat} {f : Nat → Int} (x : IsRow P w h v n f) {a : Nat} (ha : P a) (o : Ob) : IsRow P w (h.set a o) v n f := by
  obtain ⟨k, vs, rfl, nk, h1, h2, h3⟩ := x
  refine ⟨k, vs, rfl, nk, set_ne h1 fun e => nk (e ▸ ha), h2, fun j hj => ?_⟩
  obtain ⟨x, e1, e2⟩ := h3 j hj
  exact ⟨x, e1, e2.set ha o⟩
theorem IsRow.grow {P : Nat → Prop} {w : Nat} {h : Hp} {v : V} {n : Nat} {f : Nat → Int} (x : IsRow P w h v n f) {a : Nat} (ha : h.length ≤ a) : IsRow (fun b => P b ∨ b = a) w h v n f := by
  obtain ⟨k, vs, rfl, nk, h1, h2, h3⟩ := x
  have l1 := lt_of_get h1
  refine ⟨k, vs, rfl, fun e => ?_, h1, h2, fun j hj => ?_⟩
  · rcases e with e | e
    · exact nk e
    · omega
  · obtain ⟨x, e1, e2⟩ := h3 j hj
    exact ⟨x, e1, e2.grow ha⟩
theorem IsRow.shrink {P P' : Nat → Prop} {w : Nat} {h : Hp} {v : V} {n : Nat} {f : Nat → Int} (x : IsRow P w h v n f) (hp : ∀ a, P' a → P a) : IsRow P' w h v n f := by
  obtain ⟨k, vs, rfl, nk, h1, h2, h3⟩ := x
  refine ⟨k, vs, rfl, fun e => nk (hp _ e), h1, h2, fun j hj => ?_⟩
  obtain ⟨x, e1, e2⟩ := h3 j hj
  exact ⟨x, e1, e2.shrink hp⟩
theorem IsRow.congr {P : Nat → Prop} {w : Nat} {h : Hp} {v : V} {n : Nat} {f g : Nat → Int} (x : IsRow P w h v n f) (e : ∀ j, j < n → f j = g j) : IsRow P w h v n g := by
  obtain ⟨k, vs, rfl, nk, h1, h2, h3⟩ := x
  refine ⟨k, vs, rfl, nk, h1, h2, fun j hj => ?_⟩
  obtain ⟨x, e1, e2⟩ := h3 j hj
  exact ⟨x, e1, e j hj ▸ e2⟩
theorem IsRow.get {P : Nat → Prop} {w : Nat} {h : Hp} {v : V} {n : Nat} {f : Nat → Int} (x : IsRow P w h v n f) {j : Nat} {y : Int} (hj : j < n) (hy : y = (j : Int)) {KK : V → Prop} (K : ∀ x, IsI P w h x (f j) → KK x) : ixP v (.int y) h KK := by
  subst hy
  obtain ⟨k, vs, rfl, nk, h1, h2, h3⟩ := x
  obtain ⟨x, e1, e2⟩ := h3 j hj
  simp only [iX, ixO_L, ixO_T, getP_some, h1, getL_L, getT_T, nextP_next, nextP_ret, endP_ret, endP_next, cond_true, cond_false, listP_r, tupP_r, intP_i, boolP_b, fnP_f]
  refine ⟨⟨by omega, by omega⟩, ?_⟩
  rw [if_neg (by omega), Int.toNat_natCast, e1]
  exact K x e2

theorem for_enumV {i : Nat} {l : List V} {f : V × Nat → Lo → Hp → KR → Prop} {K : KR} {lo : Lo} {h : Hp} (I : Nat → Lo → Hp → Prop)
    (h0 : I 0 lo h) (chk : ∀ k lo h, I k lo h → h[i]? = some (.L l))
    (step : ∀ (k : Nat) (hk : k < l.length) (x : V) (lo : Lo) (h : Hp) (K' : KR), l[k]? = some x → I k lo h → (∀ lo h, I (k + 1) lo h → K' .next lo h) → (∀ u lo h, K (.ret u) lo h → K' (.ret u) lo h) → f (x, k) lo h K')
    (fin : ∀ lo h, I l.length lo h → K .next lo h) : forP (isListAt (.ref i) l) f l.zipIdx lo h K := by
  refine forP_inv I _ (fun k x lo h K' e i nx rr => ?_) (fun k lo h i => chk k lo h i) (fun lo h i => fin lo h (by simpa using i)) lo h h0
  rw [List.getElem?_zipIdx] at e
  have hk : k < l.length := by
    by_cases hk : k < l.length
    · exact hk
    · rw [List.getElem?_eq_none (by omega)] at e; simp at e
  have hx : l[k]? = some l[k] := by simp [hk]
  rw [hx] at e
  simp at e
  subst e
  exact step k hk _ lo h K' hx i nx rr

noncomputable def sm2 (z : Int) : Prop := z.natAbs < 2 ^ 44
theorem sm2.sm {z : Int} (h : sm2 z) : Mine.sm z := Nat.lt_trans h (by decide)
theorem sm2.mul {a b : Int} (ha : sm2 a) (hb : sm2 b) : (a * b).natAbs < 2 ^ 88 := by
  rw [Int.natAbs_mul]
  have h1 : a.natAbs ≤ 2 ^ 44 := Nat.le_of_lt ha
  have h2 : b.natAbs ≤ 2 ^ 44 - 1 := by unfold sm2 at hb; omega
  have := Nat.mul_le_mul h1 h2
  have e : (2 : Nat) ^ 44 * (2 ^ 44 - 1) < 2 ^ 88 := by decide
  omega

theorem ev_cleared {P : Nat → Prop} {d w n c : Nat} {vr vp vb : V} {f g e : Nat → Int} {b : Int} {h : Hp} {Q : KV} (hw : WW w) (hP : Old P h) (h5 : ro ≤ h.length) (hr : IsRow P w h vr n f) (hp : IsRow P w h vp n g) (hb : IsI P w h vb b)
    (hn : n ≤ 1000) (hc : c < n) (sf : ∀ j, j < n → sm2 (f j)) (sg : ∀ j, j < n → sm2 (g j)) (sb : sm b) (hb0 : b ≠ 0) (he : ∀ j, j < n → f j * g c - f c * g j = e j * b)
    (K : ∀ h' v, Ext h h' → IsRow P w h' v n e → Q v h') : callD prg (d + 7) 193 [vr, vp, .int (c : Int), vb, .int (w : Int), .fn 212, .fn 254] h Q := by
  have p1 : prg 193 = some (7, p_cleared) := rfl
  rw [callD_succ, p1]
  simp (config := { decide := true }) only [List.length_cons, List.length_nil, true_and, p_cleared, qSs0, qSs1, nextP_next, nextP_ret, qS0, qS1, qS2, qS3, qS4, qS5, qS6, qS7, qS8, qS9, qS10, qS11, qS12, tupP_r, getT_T, getP_some, cond_true, cond_false, qE0, qE1, qE2, qE3, qE4, qE5, qE6, qE7, qE8, qE9, qE10, qE11, qE12, qE13, qE14, qE15, qE16, qE17, qE18, qE19, qE20, qE21, qE22, qE23, qE24, qE25, qE26, qEs0, qEs1, qTs0, qTs1, qT0, qT1, List.getElem?_cons_zero, List.getElem?_cons_succ, upd, Nat.reduceBEq, if_true, if_false, getL_L, endP_ret, endP_next, listP_r, intP_i, boolP_b, fnP_f]
  refine hp.get hc rfl fun xp ip => ?_
  refine hr.get hc rfl fun xr ir => ?_
  obtain ⟨kr, vs, rfl, nk, hk, hvl, hvs⟩ := hr
  have hk1 : ∀ o, (h ++ [o])[kr]? = some (.L vs) := fun o => push_get hk
  simp only [listP_r, getL_L, hk1, getP_some, getT_T, nextP_next, nextP_ret, endP_ret, endP_next, cond_true, cond_false, tupP_r, intP_i, boolP_b, fnP_f]
  have hP1 : ∀ a, P a → a < h.length := hP
  generalize hPP : (fun a => P a ∨ a = h.length) = PP
  have hPPp : PP h.length := by rw [← hPP]; exact .inr rfl
  have hPsub : ∀ a, P a → PP a := fun a ha => by rw [← hPP]; exact .inl ha
  have hPold : ∀ h', Ext h h' → h.length < h'.length → Old PP h' := fun h' E hl a ha => by
    rw [← hPP] at ha
    rcases ha with ha | ha
    · have := hP a ha; omega
    · have ha : a = h.length := ha
      omega
  have gI : ∀ {v z}, IsI P w h v z → IsI PP w h v z := fun x => by rw [← hPP]; exact x.grow (Nat.le_refl _)
  have gR : ∀ {v f}, IsRow P w h v n f → IsRow PP w h v n f := fun x => by rw [← hPP]; exact x.grow (Nat.le_refl _)
  refine for_enumV (fun k lo h' => ∃ ys, lo 0 = some (.ref kr) ∧ lo 1 = some vp ∧ lo 2 = some (.int (c : Int)) ∧ lo 3 = some vb ∧ lo 4 = some (.int (w : Int)) ∧ lo 5 = some (.fn 212) ∧ lo 6 = some (.fn 254) ∧ lo 7 = some xp ∧ lo 8 = some xr ∧ lo 9 = some (.ref h.length) ∧
      Ext h h' ∧ h.length < h'.length ∧ h'[h.length]? = some (.L ys) ∧ ys.length = k ∧ ∀ j, j < k → ∃ x, ys[j]? = some x ∧ IsI PP w h' x (e j)) ?_ ?_ ?_ ?_
  · exact ⟨[], rfl, rfl, rfl, rfl, rfl, rfl, rfl, rfl, rfl, rfl, Ext.push _ _, by simp, push_last _ _, rfl, fun j hj => by omega⟩
  · intro k lo h' hI_
    refine ex1 hI_ fun ys hJ_ => and12 hJ_ fun _ _ _ _ _ _ _ _ _ _ E _ => ?_
    clear hJ_ hI_
    exact E _ _ hk
  · intro k hkl x lo h' K' hx hI_ nx rr
    refine ex1 hI_ fun ys hJ_ => and15 hJ_ fun f0 f1 f2 f3 f4 f5 f6 f7 f8 f9 E hl hys hyl hyy => ?_
    clear hJ_ hI_
    have hkn : k < n := by omega
    obtain ⟨x', hx', ix⟩ := hvs k hkn
    rw [hx] at hx'; cases hx'
    simp (config := { decide := true }) only [qSs0, qSs1, nextP_next, nextP_ret, qS0, qS1, qS2, qS3, qS4, qS5, qS6, qS7, qS8, qS9, qS10, qS11, qS12, tupP_r, getT_T, getP_some, cond_true, cond_false, qE0, qE1, qE2, qE3, qE4, qE5, qE6, qE7, qE8, qE9, qE10, qE11, qE12, qE13, qE14, qE15, qE16, qE17, qE18, qE19, qE20, qE21, qE22, qE23, qE24, qE25, qE26, qEs0, qEs1, qT0, qT1, upd, Nat.reduceBEq, if_true, if_false, f0, f1, f2, f3, f4, f5, f6, f7, f8, f9, fnP_f, getL_L, endP_ret, endP_next, listP_r, intP_i, boolP_b]
    refine ev_smul (P := PP) (d := d + 3) hw (hPold _ E hl) (by omega) ((gI ix).ext E) ((gI ip).ext E) (sf k hkn).sm (sg c hc).sm fun h1 v1 E1 i1 => ?_
    refine ((gR hp).ext (E.trans E1)).get hkn rfl fun xk ik => ?_
    have hl1 := E1.len
    refine ev_smul (P := PP) (d := d + 3) hw (hPold _ (E.trans E1) (by omega)) (by omega) ((gI ir).ext (E.trans E1)) ik (sf c hc).sm (sg k hkn).sm fun h2 v2 E2 i2 => ?_
    have hl2 := E2.len
    have s1 := (sf k hkn).mul (sg c hc)
    have s2 := (sf c hc).mul (sg k hkn)
    refine ev_ssub (P := PP) (d := d + 2) hw (hPold _ ((E.trans E1).trans E2) (by omega)) (by omega) (i1.ext E2) i2 (by unfold sm; omega) (by unfold sm; omega) fun h3 v3 E3 i3 => ?_
    have hl3 := E3.len
    have E03 := ((E.trans E1).trans E2).trans E3
    have hys3 := E3 _ _ (E2 _ _ (E1 _ _ hys))
    simp (config := { decide := true }) only [qSs0, qSs1, nextP_next, nextP_ret, qS0, qS1, qS2, qS3, qS4, qS5, qS6, qS7, qS8, qS9, qS10, qS11, qS12, tupP_r, getT_T, getP_some, cond_true, cond_false, qEs0, qEs1, qE0, qE1, qE2, qE3, qE4, qE5, qE6, qE7, qE8, qE9, qE10, qE11, qE12, qE13, qE14, qE15, qE16, qE17, qE18, qE19, qE20, qE21, qE22, qE23, qE24, qE25, qE26, qT0, qT1, upd, Nat.reduceBEq, if_true, if_false, f0, f1, f2, f3, f4, f5, f6, f7, f8, f9, nP, listP_r, getL_L, hys3, fnP_f, endP_ret, endP_next, intP_i, boolP_b]
    refine ⟨by omega, ?_⟩
    refine ev_exact (P := PP) (d := d) hw (hPold _ E03 (by omega)) (by omega) i3 ((gI hb).ext E03) (by unfold sm; omega) sb hb0 (he k hkn) fun h4 v4 E4 i4 => ?_
    have hl4 := E4.len
    have hys4 := E4 _ _ hys3
    simp only [aP, getL_L, hys4, getP_some, getT_T, nextP_next, nextP_ret, endP_ret, endP_next, cond_true, cond_false, listP_r, tupP_r, intP_i, boolP_b, fnP_f]
    have b1 : (1000 : Nat) < big := by decide
    refine ⟨⟨by omega, by omega⟩, ?_⟩
    refine nx _ _ ⟨ys ++ [v4], f0, f1, f2, f3, f4, f5, f6, f7, f8, f9, (E03.trans E4).set (Nat.le_refl _), by simp; omega, set_self hys4, by simp [hyl], fun j hj => ?_⟩
    by_cases hjk : j < k
    · obtain ⟨y, hy, iy⟩ := hyy j hjk
      refine ⟨y, by rw [List.getElem?_append_left (by omega)]; exact hy, ?_⟩
      exact ((((iy.ext E1).ext E2).ext E3).ext E4).set hPPp _
    · have hjk : j = k := by omega
      subst hjk
      refine ⟨v4, by rw [List.getElem?_append_right (by omega), hyl]; simp, i4.set hPPp _⟩
  · intro lo h' hI_
    refine ex1 hI_ fun ys hJ_ => and15 hJ_ fun f0 f1 f2 f3 f4 f5 f6 f7 f8 f9 E hl hys hyl hyy => ?_
    clear hJ_ hI_
    simp (config := { decide := true }) only [qSs0, qSs1, nextP_next, nextP_ret, qS0, qS1, qS2, qS3, qS4, qS5, qS6, qS7, qS8, qS9, qS10, qS11, qS12, tupP_r, getT_T, getP_some, cond_true, cond_false, qE0, qE1, qE2, qE3, qE4, qE5, qE6, qE7, qE8, qE9, qE10, qE11, qE12, qE13, qE14, qE15, qE16, qE17, qE18, qE19, qE20, qE21, qE22, qE23, qE24, qE25, qE26, f9, getL_L, endP_ret, endP_next, listP_r, intP_i, boolP_b, fnP_f]
    rw [hvl] at hyl hyy
    refine K _ _ E ⟨h.length, ys, rfl, hP.fresh (Nat.le_refl _), hys, hyl, fun j hj => ?_⟩
    obtain ⟨y, hy, iy⟩ := hyy j hj
    exact ⟨y, hy, iy.shrink hPsub⟩
end Mine

set_option linter.unusedVariables false
set_option linter.unusedSimpArgs false
set_option autoImplicit false
set_option maxRecDepth 8000
namespace Mine
open PySem

theorem compP_inv {chk : Hp → Prop} {f : V → Hp → (List V → Hp → Prop) → Prop} {K : List V → Hp → Prop} (I : Nat → List V → Hp → Prop) : ∀ (l : List V) (acc : List V)
    (step : ∀ (k : Nat) (v : V) (acc : List V) (h : Hp) (K' : List V → Hp → Prop), l[k]? = some v → I k acc h → (∀ ys h', I (k + 1) (acc ++ ys) h' → K' ys h') → f v h K')
    (hchk : ∀ k acc h, I k acc h → chk h) (fin : ∀ acc h, I l.length acc h → K acc h) (h : Hp) (h0 : I 0 acc h), compP chk f l acc h K := by
  intro l
  induction l generalizing I with
  | nil => intro acc step hchk fin h h0; exact ⟨hchk 0 acc h h0, fin acc h h0⟩
  | cons a r ih =>
    intro acc step hchk fin h h0
    refine ⟨hchk 0 acc h h0, step 0 a acc h _ rfl h0 fun ys h' h1 => ?_⟩
    exact ih (fun k => I (k + 1)) (acc ++ ys) (fun k v acc h K' e i nx => step (k + 1) v acc h K' (by simpa using e) i nx) (fun k acc h i => hchk (k + 1) acc h i) (fun acc h i => fin acc h i) h' h1

noncomputable def NoP : Nat → Prop := fun _ => False
theorem IsI.newP {P : Nat → Prop} {w : Nat} {h : Hp} {v : V} {z : Int} (x : IsI NoP w h v z) (hp : ∀ a, P a → h.length ≤ a) : IsI P w h v z := by
  obtain ⟨k, m, rfl, h1, h2, n1, n2⟩ := x
  have l1 := lt_of_get h1
  have l2 := lt_of_get h2
  exact ⟨k, m, rfl, h1, h2, fun e => by have := hp _ e; omega, fun e => by have := hp _ e; omega⟩

structure Base (h : Hp) : Prop where
  a1 : h[1]? = some (.L [])
  a2 : h[2]? = some (.T [.bool false, .ref 1])
  a3 : h[3]? = some (.L [.int 1])
  a4 : h[4]? = some (.T [.bool false, .ref 3])
theorem Base.ext {h h' : Hp} (x : Base h) (e : Ext h h') : Base h' := ⟨e _ _ x.a1, e _ _ x.a2, e _ _ x.a3, e _ _ x.a4⟩
theorem Base.zero {h : Hp} (x : Base h) (w : Nat) {P : Nat → Prop} (n1 : ¬ P 1) (n2 : ¬ P 2) : IsI P w h (.ref 2) 0 := ⟨2, 1, rfl, x.a2, by rw [x.a1]; simp [dig_zero], n2, n1⟩
theorem Base.one {h : Hp} (x : Base h) {w : Nat} (hw : WW w) {P : Nat → Prop} (n1 : ¬ P 3) (n2 : ¬ P 4) : IsI P w h (.ref 4) 1 := ⟨4, 3, rfl, x.a4, by
  rw [x.a3, show (1 : Int).natAbs = 1 from rfl, dig_small hw.two (by decide) (by have := hw.two; omega)]; rfl, n2, n1⟩

/-- the list of rows at pm -/
noncomputable def IsMat (P : Nat → Prop) (w : Nat) (h : Hp) (pm : Nat) (n : Nat) (F : Nat → Nat → Int) : Prop :=
  ∃ rows, h[pm]? = some (.L rows) ∧ rows.length = n ∧ ∀ i, i < n → ∃ v, rows[i]? = some v ∧ IsRow P w h v n (F i)
theorem IsMat.ext {P : Nat → Prop} {w : Nat} {h h' : Hp} {pm n : Nat} {F : Nat → Nat → Int} (x : IsMat P w h pm n F) (e : Ext h h') : IsMat P w h' pm n F := by
  obtain ⟨rows, h1, h2, h3⟩ := x
  refine ⟨rows, e _ _ h1, h2, fun i hi => ?_⟩
  obtain ⟨v, e1, e2⟩ := h3 i hi
  exact ⟨v, e1, e2.ext e⟩
theorem IsMat.setOther {P : Nat → Prop} {w : Nat} {h : Hp} {pm n : Nat} {F : Nat → Nat → Int} (x : IsMat P w h pm n F) {a : Nat} (ha : P a) (hne : a ≠ pm) (o : Ob) : IsMat P w (h.set a o) pm n F := by
  obtain ⟨rows, h1, h2, h3⟩ := x
  refine ⟨rows, set_ne h1 hne, h2, fun i hi => ?_⟩
  obtain ⟨v, e1, e2⟩ := h3 i hi
  exact ⟨v, e1, e2.set ha o⟩
theorem IsMat.congr {P : Nat → Prop} {w : Nat} {h : Hp} {pm n : Nat} {F G : Nat → Nat → Int} (x : IsMat P w h pm n F) (e : ∀ i, i < n → ∀ j, j < n → F i j = G i j) : IsMat P w h pm n G := by
  obtain ⟨rows, h1, h2, h3⟩ := x
  refine ⟨rows, h1, h2, fun i hi => ?_⟩
  obtain ⟨v, e1, e2⟩ := h3 i hi
  exact ⟨v, e1, e2.congr (e i hi)⟩
theorem IsMat.row {P : Nat → Prop} {w : Nat} {h : Hp} {pm n : Nat} {F : Nat → Nat → Int} (x : IsMat P w h pm n F) {i : Nat} {y : Int} (hi : i < n) (hy : y = (i : Int)) {KK : V → Prop} (K : ∀ v, IsRow P w h v n (F i) → KK v) : ixP (.ref pm) (.int y) h KK := by
  subst hy
  obtain ⟨rows, h1, h2, h3⟩ := x
  obtain ⟨v, e1, e2⟩ := h3 i hi
  simp only [iX, ixO_L, ixO_T, getP_some, h1, getL_L, getT_T, nextP_next, nextP_ret, endP_ret, endP_next, cond_true, cond_false, listP_r, tupP_r, intP_i, boolP_b, fnP_f]
  refine ⟨⟨by omega, by omega⟩, ?_⟩
  rw [if_neg (by omega), Int.toNat_natCast, e1]
  exact K v e2
theorem IsMat.store {P : Nat → Prop} {w : Nat} {h : Hp} {pm n : Nat} {F : Nat → Nat → Int} (x : IsMat P w h pm n F) (hp : P pm) (h5 : ro ≤ pm) {i : Nat} {y : Int} (hi : i < n) (hy : y = (i : Int)) {v : V} {f : Nat → Int} (hv : IsRow P w h v n f) {KK : Hp → Prop}
    (K : ∀ o, IsMat P w (h.set pm o) pm n (fun i' => if i' = i then f else F i') → KK (h.set pm o)) : setP (.ref pm) (.int y) v h KK := by
  subst hy
  obtain ⟨rows, h1, h2, h3⟩ := x
  simp only [sP, getL_L, h1, getP_some, getT_T, nextP_next, nextP_ret, endP_ret, endP_next, cond_true, cond_false, listP_r, tupP_r, intP_i, boolP_b, fnP_f]
  refine ⟨⟨h5, by omega, by omega⟩, ?_⟩
  rw [Int.toNat_natCast]
  refine K _ ⟨rows.set i v, set_self h1, by simp [h2], fun i' hi' => ?_⟩
  by_cases e : i' = i
  · subst e
    exact ⟨v, by rw [List.getElem?_set_self (by omega)], by simp only [if_true, cond_true, getP_some, getL_L, getT_T, nextP_next, nextP_ret, endP_ret, endP_next, cond_false, listP_r, tupP_r, intP_i, boolP_b, fnP_f]; exact hv.set hp _⟩
  · obtain ⟨u, e1, e2⟩ := h3 i' hi'
    refine ⟨u, by rw [List.getElem?_set_ne (by omega)]; exact e1, ?_⟩
    simp only [if_neg e]; exact e2.set hp _

theorem ev_pivotrow {P : Nat → Prop} {d w n r c pm : Nat} {F : Nat → Nat → Int} {h : Hp} {Q : KV} (hw : WW w) (hm : IsMat P w h pm n F) (hn : n ≤ 1000) (hr : r ≤ n) (hc : c < n)
    (K1 : (∀ i, r ≤ i → i < n → F i c = 0) → Q (.int (-1)) h) (K2 : ∀ i : Nat, r ≤ i → i < n → F i c ≠ 0 → (∀ i', r ≤ i' → i' < i → F i' c = 0) → Q (.int (i : Int)) h) :
    callD prg (d + 2) 186 [.ref pm, .int (r : Int), .int (c : Int)] h Q := by
  have p1 : prg 186 = some (3, p_pivot_row) := rfl
  rw [callD_succ, p1]
  have hm' := hm
  obtain ⟨rows, h1, h2, h3⟩ := hm'
  simp (config := { decide := true }) only [List.length_cons, List.length_nil, true_and, p_pivot_row, qSs0, qSs1, nextP_next, nextP_ret, qS0, qS1, qS2, qS3, qS4, qS5, qS6, qS7, qS8, qS9, qS10, qS11, qS12, tupP_r, getT_T, getP_some, cond_true, cond_false, qE0, qE1, qE2, qE3, qE4, qE5, qE6, qE7, qE8, qE9, qE10, qE11, qE12, qE13, qE14, qE15, qE16, qE17, qE18, qE19, qE20, qE21, qE22, qE23, qE24, qE25, qE26, qEs0, qEs1, List.getElem?_cons_zero, List.getElem?_cons_succ, listP_r, getL_L, h1, h2, intP_i, endP_ret, endP_next, boolP_b, fnP_f]
  refine ⟨⟨by omega, by omega, trivial⟩, ?_⟩
  refine for_up (fun k lo h' => lo 0 = some (.ref pm) ∧ lo 2 = some (.int (c : Int)) ∧ h' = h ∧ ∀ i, r ≤ i → i < r + k → F i c = 0) (n - r) ?_ ?_ ?_ ?_
  · unfold rangeN; rw [if_pos rfl]; omega
  · exact ⟨rfl, rfl, rfl, fun i h1 h2 => by omega⟩
  · rintro k lo h' K' hk ⟨f0, f2, rfl, hz⟩ nx rr
    simp (config := { decide := true }) only [qSs0, qSs1, nextP_next, nextP_ret, qS0, qS1, qS2, qS3, qS4, qS5, qS6, qS7, qS8, qS9, qS10, qS11, qS12, tupP_r, getT_T, getP_some, cond_true, cond_false, qE0, qE1, qE2, qE3, qE4, qE5, qE6, qE7, qE8, qE9, qE10, qE11, qE12, qE13, qE14, qE15, qE16, qE17, qE18, qE19, qE20, qE21, qE22, qE23, qE24, qE25, qE26, qEs0, qEs1, fnP_f, upd, Nat.reduceBEq, if_true, if_false, f0, f2, getL_L, endP_ret, endP_next, listP_r, intP_i, boolP_b]
    refine hm.row (i := r + k) (by omega) (by omega) fun v hv => ?_
    refine hv.get hc rfl fun x hx => ?_
    refine ev_ssign hw hx fun s hs => ?_
    simp only [cQ, cN, cL, cM, cG, cH, cX, cY, cR, boolP_b, getP_some, getL_L, getT_T, nextP_next, nextP_ret, endP_ret, endP_next, cond_true, cond_false, listP_r, tupP_r, intP_i, fnP_f]
    by_cases h0 : F (r + k) c = 0
    · have e : (s != 0) = false := by simp [hs.mpr h0]
      rw [e]
      simp (config := { decide := true }) only [if_false, cond_false, qSs0, qSs1, nextP_next, nextP_ret, getP_some, getL_L, getT_T, endP_ret, endP_next, cond_true, listP_r, tupP_r, intP_i, boolP_b, fnP_f]
      refine nx _ _ ⟨f0, f2, rfl, fun i h1 h2 => ?_⟩
      by_cases hi : i = r + k
      · rw [hi]; exact h0
      · exact hz i h1 (by omega)
    · have e : (s != 0) = true := by rw [bne_iff_ne]; exact fun e => h0 (hs.mp e)
      rw [e]
      simp (config := { decide := true }) only [if_true, cond_true, qSs0, qSs1, nextP_next, nextP_ret, qS0, qS1, qS2, qS3, qS4, qS5, qS6, qS7, qS8, qS9, qS10, qS11, qS12, tupP_r, getT_T, getP_some, cond_false, qE0, qE1, qE2, qE3, qE4, qE5, qE6, qE7, qE8, qE9, qE10, qE11, qE12, qE13, qE14, qE15, qE16, qE17, qE18, qE19, qE20, qE21, qE22, qE23, qE24, qE25, qE26, upd, Nat.reduceBEq, getL_L, endP_ret, endP_next, listP_r, intP_i, boolP_b, fnP_f]
      refine rr _ _ _ ?_
      have := K2 (r + k) (by omega) (by omega) h0 fun i' h1 h2 => hz i' h1 h2
      rw [show (((r + k : Nat) : Int)) = (r : Int) + (k : Int) from Int.natCast_add r k] at this
      exact this
  · rintro lo h' ⟨f0, f2, rfl, hz⟩
    simp (config := { decide := true }) only [qSs0, qSs1, nextP_next, nextP_ret, qS0, qS1, qS2, qS3, qS4, qS5, qS6, qS7, qS8, qS9, qS10, qS11, qS12, tupP_r, getT_T, getP_some, cond_true, cond_false, qE0, qE1, qE2, qE3, qE4, qE5, qE6, qE7, qE8, qE9, qE10, qE11, qE12, qE13, qE14, qE15, qE16, qE17, qE18, qE19, qE20, qE21, qE22, qE23, qE24, qE25, qE26, intP_i, getL_L, endP_ret, endP_next, listP_r, boolP_b, fnP_f]
    exact K1 fun i h1 h2 => hz i h1 (by omega)

noncomputable def elim_ss : List S :=
  [.forR 12 (.bin .add (.x 10) (.i 1)) (.len (.x 5)) (.i 1) [.asg (.sub (.x 5) (.x 12)) (.call (.g (.fn 193)) [(.ix (.x 5) (.x 12)), (.ix (.x 5) (.x 10)), (.x 9), (.x 8), (.x 2), (.x 3), (.x 4)])],
   .asg (.nm 8) (.ix (.ix (.x 5) (.x 10)) (.x 9)),
   .app (.x 6) (.x 9)]

theorem ev_elim {PP : Nat → Prop} {d w n pm r c : Nat} {F1 : Nat → Nat → Int} {R : Nat → Nat → Nat → Int} {gc p : Int} {xp : V} {pvs : List V} {lo : Lo} {h1 : Hp} {Q : KR} (hw : WW w) (hPold : ∀ h' : Hp, pm + 1 < h'.length → Old PP h') (hPm : PP pm) (hPx : PP (pm + 1)) (h5pm : ro ≤ pm)
    (hn : n ≤ 4) (hrc : r ≤ c) (hcn : c < n) (f2 : lo 2 = some (.int (w : Int))) (f3 : lo 3 = some (.fn 212)) (f4 : lo 4 = some (.fn 254)) (f5 : lo 5 = some (.ref pm)) (f6 : lo 6 = some (.ref (pm + 1))) (f8 : lo 8 = some xp) (f9 : lo 9 = some (.int (c : Int))) (f10 : lo 10 = some (.int (r : Int)))
    (hl : pm + 1 < h1.length) (hpv : h1[pm + 1]? = some (.L pvs)) (hpl : pvs.length < 1000) (hM : IsMat PP w h1 pm n F1) (hp : IsI PP w h1 xp p) (hp0 : p ≠ 0) (hpB : p.natAbs ≤ 2 ^ 20)
    (hRB : ∀ c i j, (R c i j).natAbs ≤ 128) (hR1 : R c c c = gc) (hR2 : ∀ i, c < i → i < n → ∀ j, j < n → R c i j * gc - R c i c * R c c j = gc * R (c + 1) i j)
    (ha : ∀ j, j < n → F1 r j = p * R c c j) (hz : ∀ i, r < i → i ≤ c → ∀ j, j < n → F1 i j = 0) (hA : ∀ i, c < i → i < n → ∀ j, j < n → F1 i j = p * R c i j)
    (K : ∀ lo' h2 F2 xp', (lo' 0 = lo 0 ∧ lo' 1 = lo 1 ∧ lo' 2 = lo 2 ∧ lo' 3 = lo 3 ∧ lo' 4 = lo 4 ∧ lo' 5 = lo 5 ∧ lo' 6 = lo 6 ∧ lo' 7 = lo 7) → lo' 8 = some xp' → pm + 1 < h2.length → (∀ h0, Ext h0 h1 → h0.length ≤ pm → Ext h0 h2) →
      h2[pm + 1]? = some (.L (pvs ++ [.int (c : Int)])) → IsMat PP w h2 pm n F2 → IsI PP w h2 xp' (p * gc) → (∀ j, j < n → F2 r j = p * R c c j) → (∀ i, r < i → i < n → ∀ j, j < n → F2 i j = if i ≤ c then 0 else p * gc * R (c + 1) i j) → Q .next lo' h2) :
    wpSs (callD prg (d + 7)) elim_ss lo h1 Q := by
  have hsm : ∀ i j, (p * R c i j).natAbs < 2 ^ 44 := fun i j => by
    rw [Int.natAbs_mul]
    have := Nat.mul_le_mul hpB (hRB c i j)
    omega
  have hrn : r < n := by omega
  obtain ⟨rows, m1, m2, m3⟩ := hM
  have hM : IsMat PP w h1 pm n F1 := ⟨rows, m1, m2, m3⟩
  simp (config := { decide := true }) only [elim_ss, qSs0, qSs1, nextP_next, nextP_ret, qS0, qS1, qS2, qS3, qS4, qS5, qS6, qS7, qS8, qS9, qS10, qS11, qS12, tupP_r, getT_T, getP_some, cond_true, cond_false, qE0, qE1, qE2, qE3, qE4, qE5, qE6, qE7, qE8, qE9, qE10, qE11, qE12, qE13, qE14, qE15, qE16, qE17, qE18, qE19, qE20, qE21, qE22, qE23, qE24, qE25, qE26, f10, f5, bA, bC, bS, bM, bR, rep1_one, bD, bO, bL, bH, bN, bU, bP, getL_L, listP_r, m1, m2, intP_i, endP_ret, endP_next, boolP_b, fnP_f]
  clear m1 m2 m3
  refine ⟨⟨by omega, by omega, trivial⟩, ?_⟩
  refine for_up (fun k lo' h2 => (lo' 0 = lo 0 ∧ lo' 1 = lo 1 ∧ lo' 2 = lo 2 ∧ lo' 3 = lo 3 ∧ lo' 4 = lo 4 ∧ lo' 5 = lo 5 ∧ lo' 6 = lo 6 ∧ lo' 7 = lo 7) ∧ (lo' 8 = lo 8 ∧ lo' 9 = lo 9 ∧ lo' 10 = lo 10) ∧
      pm + 1 < h2.length ∧ (∀ h0, Ext h0 h1 → h0.length ≤ pm → Ext h0 h2) ∧ h2[pm + 1]? = some (.L pvs) ∧ IsI PP w h2 xp p ∧ IsMat PP w h2 pm n (fun i j => if r < i ∧ i < r + 1 + k then (if i ≤ c then 0 else p * gc * R (c + 1) i j) else F1 i j)) (n - (r + 1)) ?_ ?_ ?_ ?_
  · unfold rangeN; rw [if_pos rfl]; omega
  · refine ⟨⟨rfl, rfl, rfl, rfl, rfl, rfl, rfl, rfl⟩, ⟨rfl, rfl, rfl⟩, hl, fun h0 e _ => e, hpv, hp, hM.congr fun i hi j hj => ?_⟩
    rw [if_neg (by omega)]
  · intro k lo' h2 K' hk hI_ nx rr
    refine and7 hI_ fun hN0_ hN1_ hl2 hE hpv2 hp2 hM2 => and8 hN0_ fun g0 g1 g2 g3 g4 g5 g6 g7 => and3 hN1_ fun g8 g9 g10 => ?_
    clear hN1_ hN0_ hI_
    have hi : r + 1 + k < n := by omega
    simp (config := { decide := true }) only [qSs0, qSs1, nextP_next, nextP_ret, qS0, qS1, qS2, qS3, qS4, qS5, qS6, qS7, qS8, qS9, qS10, qS11, qS12, tupP_r, getT_T, getP_some, cond_true, cond_false, qE0, qE1, qE2, qE3, qE4, qE5, qE6, qE7, qE8, qE9, qE10, qE11, qE12, qE13, qE14, qE15, qE16, qE17, qE18, qE19, qE20, qE21, qE22, qE23, qE24, qE25, qE26, qEs0, qEs1, qT0, qT1, fnP_f, upd, Nat.reduceBEq, if_true, if_false, g0, g1, g2, g3, g4, g5, g6, g7, g8, g9, g10, f2, f3, f4, f5, f6, f8, f9, f10, getL_L, endP_ret, endP_next, listP_r, intP_i, boolP_b]
    refine hM2.row hi (by omega) fun v1 r1 => ?_
    refine hM2.row hrn rfl fun v2 r2 => ?_
    have e1 : (fun j => if r < r + 1 + k ∧ r + 1 + k < r + 1 + k then (if r + 1 + k ≤ c then 0 else p * gc * R (c + 1) (r + 1 + k) j) else F1 (r + 1 + k) j) = F1 (r + 1 + k) := by
      funext j; rw [if_neg (by omega)]
    have e2 : (fun j => if r < r ∧ r < r + 1 + k then (if r ≤ c then 0 else p * gc * R (c + 1) r j) else F1 r j) = F1 r := by
      funext j; rw [if_neg (by omega)]
    have r1 : IsRow PP w h2 v1 n (F1 (r + 1 + k)) := e1 ▸ r1
    have r2 : IsRow PP w h2 v2 n (F1 r) := e2 ▸ r2
    have sg : ∀ j, j < n → sm2 (F1 r j) := fun j hj => by rw [ha j hj]; exact hsm c j
    have sf : ∀ j, j < n → sm2 (F1 (r + 1 + k) j) := fun j hj => by
      by_cases hic : r + 1 + k ≤ c
      · rw [hz _ (by omega) hic j hj]; show (0 : Int).natAbs < 2 ^ 44; decide
      · rw [hA _ (by omega) hi j hj]; exact hsm _ j
    refine ev_cleared (e := fun j => if r + 1 + k ≤ c then 0 else p * gc * R (c + 1) (r + 1 + k) j) (d := d) hw (hPold _ hl2) (by omega) r1 r2 hp2 (by omega) hcn sf sg (by unfold sm; omega) hp0 (fun j hj => ?_) fun h3 v3 E3 r3 => ?_
    · by_cases hic : r + 1 + k ≤ c
      · rw [hz _ (by omega) hic j hj, hz _ (by omega) hic c hcn, if_pos hic]; simp
      · rw [if_neg hic, hA _ (by omega) hi j hj, hA _ (by omega) hi c hcn, ha c hcn, ha j hj, hR1]
        have h4 := hR2 (r + 1 + k) (by omega) hi j hj
        have h5 : p * R c (r + 1 + k) j * (p * gc) - p * R c (r + 1 + k) c * (p * R c c j) = (p * p) * (R c (r + 1 + k) j * gc - R c (r + 1 + k) c * R c c j) := by
          rw [Int.mul_sub]
          simp only [Int.mul_assoc, Int.mul_left_comm, Int.mul_comm]
        rw [h5, h4]
        simp only [Int.mul_assoc, Int.mul_left_comm, Int.mul_comm]
    · have hl3 := E3.len
      refine (hM2.ext E3).store hPm h5pm hi (by omega) r3 fun o hM3 => ?_
      refine nx _ _ ⟨⟨g0, g1, g2, g3, g4, g5, g6, g7⟩, ⟨g8, g9, g10⟩, by simp; omega, fun h0 e hl0 => ((hE h0 e hl0).trans E3).set hl0, set_ne (E3 _ _ hpv2) (by omega), (hp2.ext E3).set hPm _, hM3.congr fun i hi' j hj => ?_⟩
      by_cases hi1 : i = r + 1 + k
      · subst hi1
        rw [if_pos rfl, if_pos (show r < r + 1 + k ∧ r + 1 + k < r + 1 + (k + 1) by omega)]
      · skip
        rw [if_neg hi1]
        by_cases hi2 : r < i ∧ i < r + 1 + k
        · rw [if_pos hi2, if_pos (show r < i ∧ i < r + 1 + (k + 1) by omega)]
        · rw [if_neg hi2, if_neg (show ¬ (r < i ∧ i < r + 1 + (k + 1)) by omega)]
  · intro lo' h2 hI_
    refine and7 hI_ fun hN0_ hN1_ hl2 hE hpv2 hp2 hM2 => and8 hN0_ fun g0 g1 g2 g3 g4 g5 g6 g7 => and3 hN1_ fun g8 g9 g10 => ?_
    clear hN1_ hN0_ hI_
    simp (config := { decide := true }) only [qSs0, qSs1, nextP_next, nextP_ret, qS0, qS1, qS2, qS3, qS4, qS5, qS6, qS7, qS8, qS9, qS10, qS11, qS12, tupP_r, getT_T, getP_some, cond_true, cond_false, qE0, qE1, qE2, qE3, qE4, qE5, qE6, qE7, qE8, qE9, qE10, qE11, qE12, qE13, qE14, qE15, qE16, qE17, qE18, qE19, qE20, qE21, qE22, qE23, qE24, qE25, qE26, qEs0, qEs1, qT0, qT1, fnP_f, upd, Nat.reduceBEq, if_true, if_false, g0, g1, g2, g3, g4, g5, g6, g7, g8, g9, g10, f2, f3, f4, f5, f6, f8, f9, f10, getL_L, endP_ret, endP_next, listP_r, intP_i, boolP_b]
    refine hM2.row hrn rfl fun v2 r2 => ?_
    have e2 : (fun j => if r < r ∧ r < r + 1 + (n - (r + 1)) then (if r ≤ c then 0 else p * gc * R (c + 1) r j) else F1 r j) = F1 r := by
      funext j; rw [if_neg (by omega)]
    have r2 : IsRow PP w h2 v2 n (F1 r) := e2 ▸ r2
    refine r2.get hcn rfl fun x ix => ?_
    rw [ha c hcn, hR1] at ix
    simp (config := { decide := true }) only [upd, Nat.reduceBEq, cond_true, cond_false, if_true, if_false, g6, f6, g9, f9, nP, listP_r, getL_L, hpv2, aP, getP_some, getT_T, nextP_next, nextP_ret, endP_ret, endP_next, tupP_r, intP_i, boolP_b, fnP_f]
    have b1 : (1000 : Nat) < big := by decide
    refine ⟨by omega, ⟨by omega, by omega⟩, ?_⟩
    refine K _ _ _ x ⟨g0, g1, g2, g3, g4, g5, g6, g7⟩ rfl (by simp; omega) (fun h0 e hl0 => (hE h0 e hl0).set (by omega)) (set_self hpv2) (hM2.setOther hPx (by omega) _) (ix.set hPx _) (fun j hj => ?_) fun i h3 h4 j hj => ?_
    · show (if r < r ∧ r < r + 1 + (n - (r + 1)) then (if r ≤ c then 0 else p * gc * R (c + 1) r j) else F1 r j) = _
      rw [if_neg (by omega)]; exact ha j hj
    · show (if r < i ∧ i < r + 1 + (n - (r + 1)) then (if i ≤ c then 0 else p * gc * R (c + 1) i j) else F1 i j) = _
      rw [if_pos (by omega)]

theorem p_steps_eq : p_steps_down =
  [.asgT [(.nm 5), (.nm 6), (.nm 7), (.nm 8)] [(.cmpL (.x 0) 101 (.slA (.x 101))), (.lst []), (.b false), (.g (.ref 4))],
   .forR 9 (.i 0) (.x 1) (.i 1) [.asg (.nm 10) (.len (.x 6)), .asg (.nm 11) (.call (.g (.fn 186)) [(.x 5), (.x 10), (.x 9)]),
    .ife (.cmp .ge (.x 11) (.i 0)) (.ife (.cmp .ne (.x 11) (.x 10)) [.asgT [(.sub (.x 5) (.x 10)), (.sub (.x 5) (.x 11))] [(.ix (.x 5) (.x 11)), (.ix (.x 5) (.x 10))], .asg (.nm 7) (.not (.x 7))] [] :: elim_ss) []],
   .ret (.tup [(.x 5), (.x 6), (.x 7)])] := rfl

theorem ev_steps {d w n pm0 : Nat} {F : Nat → Nat → Int} {R : Nat → Nat → Nat → Int} {g : Nat → Int} {h : Hp} {Q : KV} (hw : WW w) (h5 : ro ≤ h.length) (hb : Base h) (hm : IsMat NoP w h pm0 n F) (hn : n ≤ 4)
    (hF : ∀ i, i < n → ∀ j, j < n → F i j = R 0 i j)
    (hR1 : ∀ c, c < n → R c c c = g c)
    (hR2 : ∀ c, c < n → ∀ i, c < i → i < n → ∀ j, j < n → R c i j * g c - R c i c * R c c j = g c * R (c + 1) i j)
    (hR3 : ∀ c, c < n → g c = 0 → (∀ i, c ≤ i → i < n → R c i c = 0) ∧ (∀ j, j < n → R c c j = 0) ∧ ∀ i, c < i → i < n → ∀ j, j < n → R (c + 1) i j = R c i j)
    (hgB : ∀ c, c < n → (g c).natAbs ≤ 32) (hRB : ∀ c i j, (R c i j).natAbs ≤ 128)
    (pr : Nat → Int) (hpr0 : pr 0 = 1) (hpr : ∀ c, c < n → pr (c + 1) = pr c * g c)
    (K : ∀ h' k pm px neg rows pvs, Ext h h' → h'[k]? = some (.T [.ref pm, .ref px, .bool neg]) → h'[pm]? = some (.L rows) → h'[px]? = some (.L pvs) → pvs.length ≤ n → rows.length = n →
      (pvs.length = n → neg = false ∧ (0 < n → ∃ v f, rows[n - 1]? = some v ∧ IsRow NoP w h' v n f ∧ f (n - 1) = pr n)) → (pvs.length < n → pr n = 0) → Q (.ref k) h') :
    callD prg (d + 8) 198 [.ref pm0, .int (n : Int), .int (w : Int), .fn 212, .fn 254] h Q := by
  have p1 : prg 198 = some (5, p_steps_down) := rfl
  have b1 : (1000 : Nat) < big := by decide
  rw [callD_succ, p1]
  obtain ⟨rows0, hm1, hm2, hm3⟩ := hm
  simp (config := { decide := true }) only [List.length_cons, List.length_nil, true_and, p_steps_eq, qSs0, qSs1, nextP_next, nextP_ret, qS0, qS1, qS2, qS3, qS4, qS5, qS6, qS7, qS8, qS9, qS10, qS11, qS12, tupP_r, getT_T, getP_some, cond_true, cond_false, qE0, qE1, qE2, qE3, qE4, qE5, qE6, qE7, qE8, qE9, qE10, qE11, qE12, qE13, qE14, qE15, qE16, qE17, qE18, qE19, qE20, qE21, qE22, qE23, qE24, qE25, qE26, qEs0, qEs1, qTs0, qTs1, qT0, qT1, List.getElem?_cons_zero, List.getElem?_cons_succ, listP_r, getL_L, hm1, endP_ret, endP_next, intP_i, boolP_b, fnP_f]
  refine compP_inv (fun k acc h' => Ext h h' ∧ acc.length = k ∧ ∀ j, j < k → ∃ a vs, acc[j]? = some (.ref a) ∧ h.length ≤ a ∧ h'[a]? = some (.L vs) ∧ vs.length = n ∧ ∀ t, t < n → ∃ x, vs[t]? = some x ∧ IsI NoP w h x (F j t)) rows0 [] ?_ ?_ ?_ h ⟨Ext.refl _, rfl, fun j hj => by omega⟩
  · rintro k v acc h' K' hv ⟨E, hl, hacc⟩ nx
    have hk : k < n := by rw [← hm2]; exact (List.getElem?_eq_some_iff.mp hv).1
    obtain ⟨v', hv', kr, vs, rfl, _, hk1, hk2, hk3⟩ := hm3 k hk
    rw [hv] at hv'; cases hv'
    simp (config := { decide := true }) only [upd, Nat.reduceBEq, cond_true, cond_false, if_true, E _ _ hk1, getP_some, getL_L, getT_T, nextP_next, nextP_ret, endP_ret, endP_next, listP_r, tupP_r, intP_i, boolP_b, fnP_f]
    refine nx _ _ ⟨E.push' _, by simp [hl], fun j hj => ?_⟩
    by_cases hjk : j < k
    · obtain ⟨a, vs', e1, e2, e3, e4⟩ := hacc j hjk
      exact ⟨a, vs', by rw [List.getElem?_append_left (by omega)]; exact e1, e2, push_get e3, e4⟩
    · have hjk : j = k := by omega
      subst hjk
      exact ⟨h'.length, vs, by rw [List.getElem?_append_right (by omega), hl]; simp, E.len, push_last _ _, hk2, hk3⟩
  · rintro k acc h' ⟨E, _⟩
    exact E _ _ hm1
  · rintro acc h1 ⟨E1, hl, hacc⟩
    rw [hm2] at hl hacc
    have hl2 : (h1 ++ [Ob.L acc]).length = h1.length + 1 := by simp
    simp (config := { decide := true }) only [upd, Nat.reduceBEq, cond_true, cond_false, if_true, if_false, List.getElem?_cons_zero, List.getElem?_cons_succ, hl2, intP_i, getP_some, getL_L, getT_T, nextP_next, nextP_ret, endP_ret, endP_next, listP_r, tupP_r, boolP_b, fnP_f]
    refine ⟨⟨by omega, trivial⟩, ?_⟩
    have E1l := E1.len
    generalize hpm : h1.length = pm at *
    have hP2 : ∀ a, a = pm ∨ a = pm + 1 → h.length ≤ a := fun a ha => by omega
    have h2pm : (h1 ++ [Ob.L acc] ++ [Ob.L []])[pm]? = some (.L acc) := by rw [← hpm]; exact push_get (push_last _ _)
    have h2px : (h1 ++ [Ob.L acc] ++ [Ob.L []])[pm + 1]? = some (.L []) := by
      have := push_last (h1 ++ [Ob.L acc]) (Ob.L [])
      rw [hl2] at this; exact this
    have E2 : Ext h (h1 ++ [Ob.L acc] ++ [Ob.L []]) := (E1.push' _).push' _
    have hM2 : IsMat (fun a => a = pm ∨ a = pm + 1) w (h1 ++ [Ob.L acc] ++ [Ob.L []]) pm n F := by
      refine ⟨acc, h2pm, hl, fun i hi => ?_⟩
      obtain ⟨a, vs, e1, e2, e3, e4, e5⟩ := hacc i hi
      have ha := lt_of_get e3
      refine ⟨_, e1, a, vs, rfl, by omega, push_get (push_get e3), e4, fun t ht => ?_⟩
      obtain ⟨x, x1, x2⟩ := e5 t ht
      exact ⟨x, x1, (x2.newP hP2).ext E2⟩
    have hl2' : pm + 1 < (h1 ++ [Ob.L acc] ++ [Ob.L []]).length := by simp; omega
    generalize h1 ++ [Ob.L acc] ++ [Ob.L []] = h2 at *
    generalize hPP : (fun a => a = pm ∨ a = pm + 1) = PP at *
    have hPm : PP pm := by rw [← hPP]; exact .inl rfl
    have hPx : PP (pm + 1) := by rw [← hPP]; exact .inr rfl
    have hPold : ∀ h' : Hp, pm + 1 < h'.length → Old PP h' := fun h' hl a ha => by
      rw [← hPP] at ha
      rcases ha with ha | ha
      · have ha : a = pm := ha
        omega
      · have ha : a = pm + 1 := ha
        omega
    have hP34 : ¬ PP 3 ∧ ¬ PP 4 := by
      have : 5 ≤ h.length := h5
      rw [← hPP]
      constructor
      · rintro (e | e) <;> omega
      · rintro (e | e) <;> omega
    have h5pm : ro ≤ pm := by omega
    refine for_up (fun c lo h' => ∃ r F' p neg xp pvs, lo 0 = some (.ref pm0) ∧ lo 1 = some (.int (n : Int)) ∧ lo 2 = some (.int (w : Int)) ∧ lo 3 = some (.fn 212) ∧ lo 4 = some (.fn 254) ∧ lo 5 = some (.ref pm) ∧ lo 6 = some (.ref (pm + 1)) ∧ lo 7 = some (.bool neg) ∧ lo 8 = some xp ∧
        Ext h h' ∧ pm + 1 < h'.length ∧ h'[pm + 1]? = some (.L pvs) ∧ pvs.length = r ∧ IsMat PP w h' pm n F' ∧ IsI PP w h' xp p ∧ p ≠ 0 ∧ p.natAbs ≤ 32 ^ c ∧ r ≤ c ∧
        (∀ i, c ≤ i → i < n → ∀ j, j < n → F' i j = p * R c i j) ∧ (∀ i, r ≤ i → i < c → i < n → ∀ j, j < n → F' i j = 0) ∧ (r = c → neg = false ∧ p = pr c ∧ (0 < c → F' (c - 1) (c - 1) = p)) ∧ (r < c → pr c = 0)) n ?_ ?_ ?_ ?_
    · unfold rangeN; rw [if_pos rfl]; omega
    · refine ⟨0, F, 1, false, .ref 4, [], rfl, rfl, rfl, rfl, rfl, rfl, rfl, rfl, rfl, E2, hl2', h2px, rfl, hM2, (hb.ext E2).one hw hP34.1 hP34.2, by decide, by decide, Nat.le_refl _, fun i _ hi j hj => ?_, fun i h1 h2 => by omega, fun _ => ⟨rfl, hpr0.symm, fun h => by omega⟩, fun h => by omega⟩
      rw [hF i hi j hj, Int.one_mul]
    · intro c lo h' K' hc hI_ nx rr
      refine ex6 hI_ fun r F' p neg xp pvs hJ_ => and22 hJ_ fun f0 f1 f2 f3 f4 f5 f6 f7 f8 E hl' hpv hpl hM hp hp0 hpB hrc hA hZ hD hN => ?_
      clear hJ_ hI_
      have hpc : p.natAbs ≤ 2 ^ 20 := by
        have : 32 ^ c ≤ 32 ^ 4 := Nat.pow_le_pow_right (by decide) (by omega)
        have e : (32 : Nat) ^ 4 = 2 ^ 20 := by decide
        omega
      have hgc := hgB c hc
      simp (config := { decide := true }) only [qSs0, qSs1, nextP_next, nextP_ret, qS0, qS1, qS2, qS3, qS4, qS5, qS6, qS7, qS8, qS9, qS10, qS11, qS12, tupP_r, getT_T, getP_some, cond_true, cond_false, qE0, qE1, qE2, qE3, qE4, qE5, qE6, qE7, qE8, qE9, qE10, qE11, qE12, qE13, qE14, qE15, qE16, qE17, qE18, qE19, qE20, qE21, qE22, qE23, qE24, qE25, qE26, qEs0, qEs1, qT0, qT1, fnP_f, upd, Nat.reduceBEq, if_true, if_false, f0, f1, f2, f3, f4, f5, f6, f7, f8, listP_r, getL_L, hpv, hpl, Int.zero_add, endP_ret, endP_next, intP_i, boolP_b]
      refine ev_pivotrow (d := d + 5) hw hM (by omega) (by omega) hc (fun hall => ?_) fun i hri hin hne hmin => ?_
      · have hg0 : g c = 0 := by
          have := hall c hrc hc
          rw [hA c (Nat.le_refl _) hc c hc, hR1 c hc] at this
          rcases Int.mul_eq_zero.mp this with h | h
          · exact absurd h hp0
          · exact h
        obtain ⟨q1, q2, q3⟩ := hR3 c hc hg0
        simp (config := { decide := true }) only [cQ, cN, cL, cM, cG, cH, cX, cY, cR, boolP_b, if_false, cond_false, if_true, cond_true, qSs0, qSs1, nextP_next, nextP_ret, getP_some, getL_L, getT_T, endP_ret, endP_next, listP_r, tupP_r, intP_i, fnP_f]
        refine nx _ _ ⟨r, F', p, neg, xp, pvs, f0, f1, f2, f3, f4, f5, f6, f7, f8, E, hl', hpv, hpl, hM, hp, hp0, ?_, by omega, fun i h1 h2 j hj => ?_, fun i h1 h2 h3 j hj => ?_, fun e => by omega, fun _ => ?_⟩
        · rw [Nat.pow_succ]; omega
        · rw [hA i (by omega) h2 j hj, q3 i (by omega) h2 j hj]
        · by_cases hic : i = c
          · subst hic
            rw [hA i (Nat.le_refl _) h3 j hj, q2 j hj, Int.mul_zero]
          · exact hZ i h1 (by omega) h3 j hj
        · rw [hpr c hc, hg0, Int.mul_zero]
      · have hic : i = c := by
          rcases Nat.lt_trichotomy i c with h | h | h
          · exact absurd (hZ i hri h hin c hc) hne
          · exact h
          · have := hmin c hrc h
            rw [hA c (Nat.le_refl _) hc c hc, hR1 c hc] at this
            exfalso
            rcases Int.mul_eq_zero.mp this with h0 | h0
            · exact hp0 h0
            · obtain ⟨q1, _, _⟩ := hR3 c hc h0
              apply hne
              rw [hA i (by omega) hin c hc, q1 i (by omega) hin, Int.mul_zero]
        subst hic
        have hg0 : g i ≠ 0 := by
          intro h0
          apply hne
          rw [hA i (Nat.le_refl _) hc i hc, hR1 i hc, h0, Int.mul_zero]
        -- what is left after the swap
        have core : ∀ (F1 : Nat → Nat → Int) (neg1 : Bool) (lo1 : Lo) (h1 : Hp) (Q1 : KR), (lo1 0 = lo 0 ∧ lo1 1 = lo 1 ∧ lo1 2 = lo 2 ∧ lo1 3 = lo 3 ∧ lo1 4 = lo 4 ∧ lo1 5 = lo 5 ∧ lo1 6 = lo 6 ∧ lo1 8 = lo 8) → lo1 7 = some (.bool neg1) → lo1 9 = some (.int (i : Int)) → lo1 10 = some (.int (r : Int)) →
            Ext h h1 → pm + 1 < h1.length → h1[pm + 1]? = some (.L pvs) → IsMat PP w h1 pm n F1 → IsI PP w h1 xp p → (∀ j, j < n → F1 r j = p * R i i j) → (∀ i', r < i' → i' ≤ i → ∀ j, j < n → F1 i' j = 0) → (∀ i', i < i' → i' < n → ∀ j, j < n → F1 i' j = p * R i i' j) →
            (r = i → neg1 = false) → (∀ lo h, K' .next lo h → Q1 .next lo h) → wpSs (callD prg (d + 7)) elim_ss lo1 h1 Q1 := by
          intro F1 neg1 lo1 h1 Q1 hI_ g7 g9 g10 E1 hl1 hpv1 hM1 hp1 ha hz hA1 hneg hQ
          refine and8 hI_ fun g0 g1 g2 g3 g4 g5 g6 g8 => ?_
          clear hI_
          refine ev_elim (gc := g i) hw hPold hPm hPx h5pm hn hrc hc (g2.trans f2) (g3.trans f3) (g4.trans f4) (g5.trans f5) (g6.trans f6) (g8.trans f8) g9 g10 hl1 hpv1 (by omega) hM1 hp1 hp0 hpc hRB (hR1 i hc) (hR2 i hc) ha hz hA1 ?_
          intro lo' h2 F2 xp' hI_ k8 hl2 hE2 hpv2 hM2 hp2 hr2 hrest
          refine and8 hI_ fun k0 k1 k2 k3 k4 k5 k6 k7 => ?_
          clear hI_
          refine hQ _ _ (nx _ _ ⟨r + 1, F2, p * g i, neg1, xp', _, k0.trans (g0.trans f0), k1.trans (g1.trans f1), k2.trans (g2.trans f2), k3.trans (g3.trans f3), k4.trans (g4.trans f4), k5.trans (g5.trans f5), k6.trans (g6.trans f6), k7.trans g7, k8, hE2 h E1 (by omega), hl2, hpv2, by simp [hpl], hM2, hp2, ?_, ?_, by omega, fun i' h1 h2 j hj => ?_, fun i' h1 h2 h3 j hj => ?_, fun e => ?_, fun e => ?_⟩)
          · intro h0
            rcases Int.mul_eq_zero.mp h0 with h | h
            · exact hp0 h
            · exact hg0 h
          · rw [Int.natAbs_mul, Nat.pow_succ]
            exact Nat.mul_le_mul hpB hgc
          · rw [hrest i' (by omega) h2 j hj, if_neg (by omega)]
          · rw [hrest i' (by omega) h3 j hj, if_pos (by omega)]
          · have hri' : r = i := by omega
            obtain ⟨q1, q2, q3⟩ := hD hri'
            refine ⟨hneg hri', by rw [hpr i hc, q2], fun _ => ?_⟩
            have := hr2 i hc
            rw [hri'] at this
            rw [show i + 1 - 1 = i by omega, this, hR1 i hc]
          · rw [hpr i hc, hN (by omega), Int.zero_mul]
        have hge : decide ((0 : Int) ≤ (i : Int)) = true := by rw [decide_eq_true_iff]; omega
        simp (config := { decide := true }) only [cQ, cN, cL, cM, cG, cH, cX, cY, cR, boolP_b, hge, if_true, cond_true, if_false, cond_false, qSs0, qSs1, nextP_next, nextP_ret, qS0, qS1, qS2, qS3, qS4, qS5, qS6, qS7, qS8, qS9, qS10, qS11, qS12, tupP_r, getT_T, getP_some, qE0, qE1, qE2, qE3, qE4, qE5, qE6, qE7, qE8, qE9, qE10, qE11, qE12, qE13, qE14, qE15, qE16, qE17, qE18, qE19, qE20, qE21, qE22, qE23, qE24, qE25, qE26, qEs0, qEs1, qTs0, qTs1, qT0, qT1, upd, Nat.reduceBEq, getL_L, endP_ret, endP_next, listP_r, intP_i, fnP_f]
        by_cases hir : i = r
        · have e : ((i : Int) != (r : Int)) = false := by simp [hir]
          simp (config := { decide := true }) only [e, if_false, cond_false, qSs0, qSs1, nextP_next, nextP_ret, getP_some, getL_L, getT_T, endP_ret, endP_next, cond_true, listP_r, tupP_r, intP_i, boolP_b, fnP_f]
          refine core F' neg _ h' _ ⟨rfl, rfl, rfl, rfl, rfl, rfl, rfl, rfl⟩ f7 rfl rfl E hl' hpv hM hp (fun j hj => ?_) (fun i' h1 h2 => by omega) (fun i' h1 h2 j hj => hA i' (by omega) h2 j hj) (fun e => (hD e).1) fun lo h q => q
          rw [← hir]; exact hA i (Nat.le_refl _) hc j hj
        · have e : ((i : Int) != (r : Int)) = true := by rw [bne_iff_ne]; omega
          simp (config := { decide := true }) only [e, if_true, cond_true, qSs0, qSs1, nextP_next, nextP_ret, qS0, qS1, qS2, qS3, qS4, qS5, qS6, qS7, qS8, qS9, qS10, qS11, qS12, tupP_r, getT_T, getP_some, cond_false, qE0, qE1, qE2, qE3, qE4, qE5, qE6, qE7, qE8, qE9, qE10, qE11, qE12, qE13, qE14, qE15, qE16, qE17, qE18, qE19, qE20, qE21, qE22, qE23, qE24, qE25, qE26, qEs0, qEs1, qTs0, qTs1, qT0, qT1, upd, Nat.reduceBEq, if_false, f5, getL_L, endP_ret, endP_next, listP_r, intP_i, boolP_b, fnP_f]
          refine hM.row hc rfl fun vi ri => ?_
          refine hM.row (i := r) (by omega) rfl fun vr rr' => ?_
          refine hM.store hPm h5pm (i := r) (by omega) rfl ri fun o hM1 => ?_
          refine hM1.store hPm h5pm hc rfl (rr'.set hPm _) fun o2 hM2 => ?_
          rw [List.set_set] at hM2 ⊢
          have Eset : Ext h (h'.set pm o2) := E.set (by omega)
          refine core _ (!neg) _ _ _ ⟨rfl, rfl, rfl, rfl, rfl, rfl, rfl, rfl⟩ rfl rfl rfl Eset (by simp; omega) (set_ne hpv (by omega)) hM2 (hp.set hPm _) (fun j hj => ?_) (fun i' h1 h2 j hj => ?_) (fun i' h1 h2 j hj => ?_) (fun e => by omega) fun lo h q => q
          · show (if r = i then F' r else if r = r then F' i else F' r) j = _
            rw [if_neg (by omega), if_pos rfl]
            exact hA i (Nat.le_refl _) hc j hj
          · show (if i' = i then F' r else if i' = r then F' i else F' i') j = _
            by_cases hii : i' = i
            · rw [if_pos hii]
              exact hZ r (Nat.le_refl _) (by omega) (by omega) j hj
            · rw [if_neg hii, if_neg (by omega)]
              exact hZ i' (by omega) (by omega) (by omega) j hj
          · show (if i' = i then F' r else if i' = r then F' i else F' i') j = _
            rw [if_neg (by omega), if_neg (by omega)]
            exact hA i' (by omega) h2 j hj
    · intro lo h' hI_
      refine ex6 hI_ fun r F' p neg xp pvs hJ_ => and22 hJ_ fun f0 f1 f2 f3 f4 f5 f6 f7 f8 E hl' hpv hpl hM hp hp0 hpB hrc hA hZ hD hN => ?_
      clear hJ_ hI_
      simp (config := { decide := true }) only [qSs0, qSs1, nextP_next, nextP_ret, qS0, qS1, qS2, qS3, qS4, qS5, qS6, qS7, qS8, qS9, qS10, qS11, qS12, tupP_r, getT_T, getP_some, cond_true, cond_false, qE0, qE1, qE2, qE3, qE4, qE5, qE6, qE7, qE8, qE9, qE10, qE11, qE12, qE13, qE14, qE15, qE16, qE17, qE18, qE19, qE20, qE21, qE22, qE23, qE24, qE25, qE26, qEs0, qEs1, f5, f6, f7, getL_L, endP_ret, endP_next, listP_r, intP_i, boolP_b, fnP_f]
      obtain ⟨rows, m1, m2, m3⟩ := hM
      refine K _ _ pm (pm + 1) neg rows pvs (E.push' _) (push_last _ _) (push_get m1) (push_get hpv) (by omega) m2 (fun e => ?_) fun e => hN (by omega)
      obtain ⟨q1, q2, q3⟩ := hD (by omega)
      refine ⟨q1, fun h0 => ?_⟩
      obtain ⟨v, v1, v2⟩ := m3 (n - 1) (by omega)
      exact ⟨v, _, v1, (v2.shrink fun a ha => ha.elim).ext (Ext.push _ _), by rw [q3 h0, q2]⟩
end Mine

set_option linter.unusedVariables false
set_option linter.unusedSimpArgs false
set_option autoImplicit false
set_option maxRecDepth 8000
namespace Mine
open PySem

theorem ev_det0 {d w n pm0 : Nat} {F : Nat → Nat → Int} {R : Nat → Nat → Nat → Int} {g : Nat → Int} {h : Hp} {Q : KV} (hw : WW w) (h5 : ro ≤ h.length) (hb : Base h) (hm : IsMat NoP w h pm0 n F) (hn0 : 0 < n) (hn : n ≤ 4)
    (hF : ∀ i, i < n → ∀ j, j < n → F i j = R 0 i j)
    (hR1 : ∀ c, c < n → R c c c = g c)
    (hR2 : ∀ c, c < n → ∀ i, c < i → i < n → ∀ j, j < n → R c i j * g c - R c i c * R c c j = g c * R (c + 1) i j)
    (hR3 : ∀ c, c < n → g c = 0 → (∀ i, c ≤ i → i < n → R c i c = 0) ∧ (∀ j, j < n → R c c j = 0) ∧ ∀ i, c < i → i < n → ∀ j, j < n → R (c + 1) i j = R c i j)
    (hgB : ∀ c, c < n → (g c).natAbs ≤ 32) (hRB : ∀ c i j, (R c i j).natAbs ≤ 128)
    (pr : Nat → Int) (hpr0 : pr 0 = 1) (hpr : ∀ c, c < n → pr (c + 1) = pr c * g c)
    (K : ∀ h' v, Ext h h' → IsI NoP w h' v (pr n) → Q v h') :
    callD prg (d + 9) 205 [.ref pm0, .int (w : Int), .fn 212, .fn 254] h Q := by
  have p1 : prg 205 = some (4, p_det_bareiss) := rfl
  rw [callD_succ, p1]
  have hm' := hm
  obtain ⟨rows0, hm1, hm2, hm3⟩ := hm'
  have hn0' : (((n : Nat) : Int) == 0) = false := by rw [beq_eq_false_iff_ne]; omega
  simp (config := { decide := true }) only [List.length_cons, List.length_nil, true_and, p_det_bareiss, qSs0, qSs1, nextP_next, nextP_ret, qS0, qS1, qS2, qS3, qS4, qS5, qS6, qS7, qS8, qS9, qS10, qS11, qS12, tupP_r, getT_T, getP_some, cond_true, cond_false, qE0, qE1, qE2, qE3, qE4, qE5, qE6, qE7, qE8, qE9, qE10, qE11, qE12, qE13, qE14, qE15, qE16, qE17, qE18, qE19, qE20, qE21, qE22, qE23, qE24, qE25, qE26, qEs0, qEs1, qTs0, qTs1, qT0, qT1, List.getElem?_cons_zero, List.getElem?_cons_succ, listP_r, getL_L, hm1, hm2, cQ, cN, cL, cM, cG, cH, cX, cY, cR, boolP_b, hn0', if_false, fnP_f, endP_ret, endP_next, intP_i]
  refine ev_steps (d := d) hw h5 hb hm hn hF hR1 hR2 hR3 hgB hRB pr hpr0 hpr fun h' k pm px neg rows pvs E hk hrows hpvs hpl hrl hfull hpart => ?_
  simp (config := { decide := true }) only [hk, List.map, qTs0, qTs1, qT0, qT1, upd, Nat.reduceBEq, cond_true, cond_false, if_true, if_false, qE0, qE1, qE2, qE3, qE4, qE5, qE6, qE7, qE8, qE9, qE10, qE11, qE12, qE13, qE14, qE15, qE16, qE17, qE18, qE19, qE20, qE21, qE22, qE23, qE24, qE25, qE26, getP_some, List.getElem?_cons_zero, listP_r, getL_L, hpvs, E _ _ hm1, hm2, cQ, cN, cL, cM, cG, cH, cX, cY, cR, boolP_b, getT_T, nextP_next, nextP_ret, endP_ret, endP_next, tupP_r, intP_i, fnP_f]
  by_cases hlt : pvs.length < n
  · rw [decide_eq_true (by omega)]
    simp (config := { decide := true }) only [if_true, cond_true, qSs0, qSs1, nextP_next, nextP_ret, qS0, qS1, qS2, qS3, qS4, qS5, qS6, qS7, qS8, qS9, qS10, qS11, qS12, tupP_r, getT_T, getP_some, cond_false, qE0, qE1, qE2, qE3, qE4, qE5, qE6, qE7, qE8, qE9, qE10, qE11, qE12, qE13, qE14, qE15, qE16, qE17, qE18, qE19, qE20, qE21, qE22, qE23, qE24, qE25, qE26, getL_L, endP_ret, endP_next, listP_r, intP_i, boolP_b, fnP_f]
    refine K _ _ E ?_
    rw [hpart hlt]
    exact (hb.ext E).zero w (fun e => e) (fun e => e)
  · rw [decide_eq_false (by omega)]
    obtain ⟨rfl, hrow⟩ := hfull (by omega)
    obtain ⟨v, f, hv, hr, hfn⟩ := hrow hn0
    simp (config := { decide := true }) only [if_false, cond_false, qSs0, qSs1, nextP_next, nextP_ret, qS0, qS1, qS2, qS3, qS4, qS5, qS6, qS7, qS8, qS9, qS10, qS11, qS12, tupP_r, getT_T, getP_some, cond_true, qE0, qE1, qE2, qE3, qE4, qE5, qE6, qE7, qE8, qE9, qE10, qE11, qE12, qE13, qE14, qE15, qE16, qE17, qE18, qE19, qE20, qE21, qE22, qE23, qE24, qE25, qE26, qT0, qT1, upd, Nat.reduceBEq, if_true, List.getElem?_cons_zero, intP_i, getL_L, endP_ret, endP_next, listP_r, boolP_b, fnP_f]
    have hix : ∀ KK : V → Prop, KK v → ixP (.ref pm) (.int (-1)) h' KK := by
      intro KK hKK
      simp only [iX, ixO_L, ixO_T, getP_some, hrows, hrl, getL_L, getT_T, nextP_next, nextP_ret, endP_ret, endP_next, cond_true, cond_false, listP_r, tupP_r, intP_i, boolP_b, fnP_f]
      refine ⟨⟨by omega, by omega⟩, ?_⟩
      rw [if_pos (by decide), show ((-1 : Int) + ((n : Nat) : Int)).toNat = n - 1 by omega, hv]
      exact hKK
    refine hix _ ?_
    simp (config := { decide := true }) only [qSs0, qSs1, nextP_next, nextP_ret, qS0, qS1, qS2, qS3, qS4, qS5, qS6, qS7, qS8, qS9, qS10, qS11, qS12, tupP_r, getT_T, getP_some, cond_true, cond_false, qE0, qE1, qE2, qE3, qE4, qE5, qE6, qE7, qE8, qE9, qE10, qE11, qE12, qE13, qE14, qE15, qE16, qE17, qE18, qE19, qE20, qE21, qE22, qE23, qE24, qE25, qE26, qT0, qT1, upd, Nat.reduceBEq, if_true, if_false, List.getElem?_cons_zero, listP_r, getL_L, E _ _ hm1, hm2, bA, bC, bS, bM, bR, rep1_one, bD, bO, bL, bH, bN, bU, bP, endP_ret, endP_next, intP_i, boolP_b, fnP_f]
    refine hr.get (j := n - 1) (by omega) (by omega) fun x hx => ?_
    rw [hfn] at hx
    exact K _ _ E hx

/-! ## the grid of common divisors -/
noncomputable def Em (i k : Nat) : Int := if (k + 1) ∣ (i + 1) then 1 else 0
noncomputable def Rm (g : Nat → Int) (c i j : Nat) : Int :=
  (if c ≤ 0 then Em i 0 * g 0 * Em j 0 else 0) + ((if c ≤ 1 then Em i 1 * g 1 * Em j 1 else 0) + ((if c ≤ 2 then Em i 2 * g 2 * Em j 2 else 0) + (if c ≤ 3 then Em i 3 * g 3 * Em j 3 else 0)))
theorem Em_le (i k : Nat) : Em i k = 0 ∨ Em i k = 1 := by unfold Em; split <;> simp
theorem Rm_step (g : Nat → Int) {c : Nat} (hc : c < 4) (i j : Nat) : Rm g c i j = Em i c * g c * Em j c + Rm g (c + 1) i j := by
  have : c = 0 ∨ c = 1 ∨ c = 2 ∨ c = 3 := by omega
  rcases this with rfl | rfl | rfl | rfl <;> simp [Rm]
theorem Em_self (c : Nat) : Em c c = 1 := by unfold Em; rw [if_pos (Nat.dvd_refl _)]
theorem Em_gt {c k : Nat} (h : c < k) : Em c k = 0 := by
  unfold Em; rw [if_neg]
  intro hd
  have := Nat.le_of_dvd (by omega) hd
  omega
theorem Rm_low (g : Nat → Int) {c : Nat} (hc : c < 4) (j : Nat) : Rm g (c + 1) c j = 0 := by
  have : c = 0 ∨ c = 1 ∨ c = 2 ∨ c = 3 := by omega
  rcases this with rfl | rfl | rfl | rfl <;> simp [Rm, Em]
theorem Rm_low' (g : Nat → Int) {c : Nat} (hc : c < 4) (i : Nat) : Rm g (c + 1) i c = 0 := by
  have : c = 0 ∨ c = 1 ∨ c = 2 ∨ c = 3 := by omega
  rcases this with rfl | rfl | rfl | rfl <;> simp [Rm, Em]
theorem Rm_1 (g : Nat → Int) {c : Nat} (hc : c < 4) : Rm g c c c = g c := by
  rw [Rm_step g hc, Rm_low g hc, Em_self]; simp
theorem Rm_2 (g : Nat → Int) {c : Nat} (hc : c < 4) (i j : Nat) : Rm g c i j * g c - Rm g c i c * Rm g c c j = g c * Rm g (c + 1) i j := by
  rw [Rm_step g hc i j, Rm_step g hc i c, Rm_step g hc c j, Rm_low g hc, Rm_low' g hc, Em_self, Int.mul_one, Int.one_mul, Int.add_zero, Int.add_zero, Int.add_mul]
  have e : Em i c * g c * Em j c * g c = Em i c * g c * (g c * Em j c) := by
    rw [Int.mul_assoc (Em i c * g c), Int.mul_comm (Em j c)]
  rw [e, Int.mul_comm (Rm g (c + 1) i j)]
  omega
theorem Rm_3 (g : Nat → Int) {c : Nat} (hc : c < 4) (h0 : g c = 0) (i j : Nat) : Rm g c i c = 0 ∧ Rm g c c j = 0 ∧ Rm g (c + 1) i j = Rm g c i j := by
  refine ⟨?_, ?_, ?_⟩
  · rw [Rm_step g hc, Rm_low' g hc, h0]; simp
  · rw [Rm_step g hc, Rm_low g hc, h0]; simp
  · rw [Rm_step g hc i j, h0]; simp
theorem abs4 {a b c d : Int} (ha : a.natAbs ≤ 32) (hb : b.natAbs ≤ 32) (hc : c.natAbs ≤ 32) (hd : d.natAbs ≤ 32) : (a + (b + (c + d))).natAbs ≤ 128 :=
  Nat.le_trans (Int.natAbs_add_le _ _) (Nat.add_le_add ha (Nat.le_trans (Int.natAbs_add_le _ _) (Nat.add_le_add hb (Nat.le_trans (Int.natAbs_add_le _ _) (Nat.add_le_add hc hd)))))
theorem abs_sub {a b : Int} (ha : a.natAbs ≤ 9) (hb : b.natAbs ≤ 9) : (a - b).natAbs ≤ 18 := by
  have h := Int.natAbs_add_le a (-b)
  rw [Int.natAbs_neg, ← Int.sub_eq_add_neg] at h
  exact Nat.le_trans h (Nat.add_le_add ha hb)
theorem Rm_B (g : Nat → Int) (hg : ∀ c, (g c).natAbs ≤ 32) (c i j : Nat) : (Rm g c i j).natAbs ≤ 128 := by
  have t : ∀ k : Nat, ∀ b : Prop, [Decidable b] → (if b then Em i k * g k * Em j k else 0).natAbs ≤ 32 := by
    intro k b _
    split
    · have := hg k
      rcases Em_le i k with h1 | h1 <;> rcases Em_le j k with h2 | h2 <;> rw [h1, h2] <;> simp <;> exact this
    · simp
  exact abs4 (t 0 (c ≤ 0)) (t 1 (c ≤ 1)) (t 2 (c ≤ 2)) (t 3 (c ≤ 3))

noncomputable def gOf (t : Nat → Int) : Nat → Int
  | 0 => t 0
  | 1 => t 1 - t 0
  | 2 => t 2 - t 0
  | 3 => t 3 - t 1
  | _ => 0
theorem gOf_32 {t : Nat → Int} (ht : ∀ k, (t k).natAbs ≤ 9) (c : Nat) : (gOf t c).natAbs ≤ 32 := by
  match c with
  | 0 => exact Nat.le_trans (ht 0) (by decide)
  | 1 => exact Nat.le_trans (abs_sub (ht 1) (ht 0)) (by decide)
  | 2 => exact Nat.le_trans (abs_sub (ht 2) (ht 0)) (by decide)
  | 3 => exact Nat.le_trans (abs_sub (ht 3) (ht 1)) (by decide)
  | _ + 4 => exact Nat.zero_le _
noncomputable def prOf (g : Nat → Int) : Nat → Int
  | 0 => 1
  | n + 1 => prOf g n * g n
noncomputable def gridOf (t : Nat → Int) (i j : Nat) : Int := t (Nat.gcd (i + 1) (j + 1) - 1)
theorem grid_eq (t : Nat → Int) {i j : Nat} (hi : i < 4) (hj : j < 4) : gridOf t i j = Rm (gOf t) 0 i j := by
  have h1 : i = 0 ∨ i = 1 ∨ i = 2 ∨ i = 3 := by omega
  have h2 : j = 0 ∨ j = 1 ∨ j = 2 ∨ j = 3 := by omega
  rcases h1 with rfl | rfl | rfl | rfl <;> rcases h2 with rfl | rfl | rfl | rfl <;> simp [gridOf, Rm, Em, gOf] <;> omega

theorem ev_det {d w n pm0 : Nat} {t : Nat → Int} {h : Hp} {Q : KV} (hw : WW w) (h5 : ro ≤ h.length) (hb : Base h) (hm : IsMat NoP w h pm0 n (gridOf t)) (hn0 : 0 < n) (hn : n ≤ 4) (ht : ∀ k, (t k).natAbs ≤ 9)
    (K : ∀ h' v, Ext h h' → IsI NoP w h' v (prOf (gOf t) n) → Q v h') :
    callD prg (d + 9) 205 [.ref pm0, .int (w : Int), .fn 212, .fn 254] h Q := by
  have hg := gOf_32 ht
  exact ev_det0 (R := Rm (gOf t)) (g := gOf t) hw h5 hb hm hn0 hn (fun i hi j hj => grid_eq t (by omega) (by omega)) (fun c hc => Rm_1 _ (by omega)) (fun c hc i _ _ j _ => Rm_2 _ (by omega) i j)
    (fun c hc h0 => ⟨fun i _ _ => (Rm_3 _ (by omega) h0 i 0).1, fun j _ => (Rm_3 _ (by omega) h0 0 j).2.1, fun i _ _ j _ => (Rm_3 _ (by omega) h0 i j).2.2⟩) (fun c _ => hg c) (Rm_B _ hg) (prOf (gOf t)) rfl (fun c _ => rfl) K
end Mine

set_option linter.unusedVariables false
set_option linter.unusedSimpArgs false
set_option autoImplicit false
set_option maxRecDepth 8000
namespace Mine
open PySem

theorem ev_gcd {d i j w a b : Nat} {h : Hp} {Q : KV} (hw : WW w) (h5 : ro ≤ h.length) (ha : h[i]? = some (.L (nl (dig (2 ^ w) a)))) (hb : h[j]? = some (.L (nl (dig (2 ^ w) b)))) (la : a < 2 ^ 90) (lb : b < 2 ^ 90)
    (K : ∀ h' k, Ext h h' → h'[k]? = some (.L (nl (dig (2 ^ w) (Nat.gcd a b)))) → Q (.ref k) h') : callD prg (d + 5) 21 [.ref i, .ref j, .int (w : Int), .fn 254] h Q := by
  have p1 : prg 21 = some (4, p_gcd_plain) := rfl
  have hB := hw.two
  rw [callD_succ, p1]
  simp (config := { decide := true }) only [List.length_cons, List.length_nil, true_and, p_gcd_plain, qSs0, qSs1, nextP_next, nextP_ret, qS0, qS1, qS2, qS3, qS4, qS5, qS6, qS7, qS8, qS9, qS10, qS11, qS12, tupP_r, getT_T, getP_some, cond_true, cond_false, qE0, qE1, qE2, qE3, qE4, qE5, qE6, qE7, qE8, qE9, qE10, qE11, qE12, qE13, qE14, qE15, qE16, qE17, qE18, qE19, qE20, qE21, qE22, qE23, qE24, qE25, qE26, qEs0, qEs1, qTs0, qTs1, qT0, qT1, getL_L, endP_ret, endP_next, listP_r, intP_i, boolP_b, fnP_f]
  refine while_inv (fun m lo h' => ∃ a' i j, lo 0 = some (.ref i) ∧ lo 1 = some (.ref j) ∧ lo 2 = some (.int (w : Int)) ∧ lo 3 = some (.fn 254) ∧ Ext h h' ∧ h'[i]? = some (.L (nl (dig (2 ^ w) a'))) ∧ h'[j]? = some (.L (nl (dig (2 ^ w) m))) ∧ a' < 2 ^ 90 ∧ m < 2 ^ 90 ∧ Nat.gcd a' m = Nat.gcd a b) ?_ b _ _
    ⟨a, i, j, rfl, rfl, rfl, rfl, Ext.refl _, ha, hb, la, lb, rfl⟩
  intro m lo h' hI_
  refine ex3 hI_ fun a' i j hJ_ => and10 hJ_ fun f0 f1 f2 f3 E hi hj l1 l2 hg => ?_
  clear hJ_ hI_
  have hlen := dig_len0 hB m
  rcases Nat.eq_zero_or_pos m with h0 | h0
  · refine ⟨false, fun K1 k => ?_, fun e => (by cases e), fun _ => ?_⟩
    · simp only [f1, listP_r, getL_L, hj, nl_len, cQ, cN, cL, cM, cG, cH, cX, cY, cR, boolP_b, getP_some, getT_T, nextP_next, nextP_ret, endP_ret, endP_next, cond_true, cond_false, tupP_r, intP_i, fnP_f]
      rw [decide_eq_false (by omega)]; exact k
    · rw [nextP_next, f0]
      rw [h0, Nat.gcd_zero_right] at hg
      exact K _ _ E (hg ▸ hi)
  · refine ⟨true, fun K1 k => ?_, fun _ K' nx => ?_, fun e => (by cases e)⟩
    · simp only [f1, listP_r, getL_L, hj, nl_len, cQ, cN, cL, cM, cG, cH, cX, cY, cR, boolP_b, getP_some, getT_T, nextP_next, nextP_ret, endP_ret, endP_next, cond_true, cond_false, tupP_r, intP_i, fnP_f]
      rw [decide_eq_true (by omega)]; exact k
    · simp (config := { decide := true }) only [qSs0, qSs1, nextP_next, nextP_ret, qS0, qS1, qS2, qS3, qS4, qS5, qS6, qS7, qS8, qS9, qS10, qS11, qS12, tupP_r, getT_T, getP_some, cond_true, cond_false, qE0, qE1, qE2, qE3, qE4, qE5, qE6, qE7, qE8, qE9, qE10, qE11, qE12, qE13, qE14, qE15, qE16, qE17, qE18, qE19, qE20, qE21, qE22, qE23, qE24, qE25, qE26, qEs0, qEs1, f0, f1, f2, f3, fnP_f, getL_L, endP_ret, endP_next, listP_r, intP_i, boolP_b]
      refine ev_divrem (d := d) hw (Nat.le_trans h5 E.len) hi hj (sm_lim l1) (sm_lim l2) h0 fun h2 k q r E2 _ _ _ ht hq hr => ?_
      refine ix_t1 ht ?_
      have hlt : a' % m < m := Nat.mod_lt _ h0
      refine nx (a' % m) _ _ hlt ⟨m, j, r, rfl, rfl, f2, f3, E.trans E2, E2 _ _ hj, hr, l2, by omega, ?_⟩
      rw [← hg, Nat.gcd_comm m, ← Nat.gcd_rec, Nat.gcd_comm]

theorem ev_next {d st q m c : Nat} {ys : List Int} {h : Hp} {Q : KV} (h5 : ro ≤ st) (hs : h[st]? = some (.L [.int (c : Int), .ref q])) (hq : h[q]? = some (.L (ys.map .int))) (hqs : q ≠ st) (hc : c ≤ 1000) (hm : 0 < m)
    (K : ∀ r : Nat, r < m → Q (.int (r : Int)) (h.set st (.L [.int ((c + 1 : Nat) : Int), .ref q]))) : callD prg (d + 1) 261 [.ref st, .int (m : Int)] h Q := by
  have p1 : prg 261 = some (2, p_law_next) := rfl
  rw [callD_succ, p1]
  have hm0 : (m : Int) ≠ 0 := by omega
  have ix0 : ∀ (h : Hp) (a b : V) (KK : V → Prop), h[st]? = some (.L [a, b]) → KK a → ixP (.ref st) (.int 0) h KK := by
    intro h a b KK e k
    simp only [iX, ixO_L, ixO_T, getP_some, e, getL_L, getT_T, nextP_next, nextP_ret, endP_ret, endP_next, cond_true, cond_false, listP_r, tupP_r, intP_i, boolP_b, fnP_f]
    exact ⟨⟨by simp, by simp⟩, k⟩
  have ix1 : ∀ (h : Hp) (a b : V) (KK : V → Prop), h[st]? = some (.L [a, b]) → KK b → ixP (.ref st) (.int 1) h KK := by
    intro h a b KK e k
    simp only [iX, ixO_L, ixO_T, getP_some, e, getL_L, getT_T, nextP_next, nextP_ret, endP_ret, endP_next, cond_true, cond_false, listP_r, tupP_r, intP_i, boolP_b, fnP_f]
    exact ⟨⟨by simp, by simp⟩, k⟩
  have fin : ∀ z : Int, Q (.int (z.fmod m)) (h.set st (.L [.int ((c + 1 : Nat) : Int), .ref q])) := by
    intro z
    have h1 := Int.fmod_nonneg_of_pos z (show (0 : Int) < m by omega)
    have h2 := Int.fmod_lt_of_pos z (show (0 : Int) < m by omega)
    have := K (z.fmod m).toNat (by omega)
    rw [show (((z.fmod m).toNat : Nat) : Int) = z.fmod m by omega] at this
    exact this
  simp (config := { decide := true }) only [List.length_cons, List.length_nil, true_and, p_law_next, qSs0, qSs1, nextP_next, nextP_ret, qS0, qS1, qS2, qS3, qS4, qS5, qS6, qS7, qS8, qS9, qS10, qS11, qS12, tupP_r, getT_T, getP_some, cond_true, cond_false, qE0, qE1, qE2, qE3, qE4, qE5, qE6, qE7, qE8, qE9, qE10, qE11, qE12, qE13, qE14, qE15, qE16, qE17, qE18, qE19, qE20, qE21, qE22, qE23, qE24, qE25, qE26, qEs0, qEs1, qTs0, qTs1, qT0, qT1, List.getElem?_cons_zero, List.getElem?_cons_succ, getL_L, endP_ret, endP_next, listP_r, intP_i, boolP_b, fnP_f]
  refine ix0 _ _ _ _ hs ?_
  simp only [bA, bC, bS, bM, bR, rep1_one, bD, bO, bL, bH, bN, bU, bP, getL_L, sP, hs, getP_some, getT_T, nextP_next, nextP_ret, endP_ret, endP_next, cond_true, cond_false, listP_r, tupP_r, intP_i, boolP_b, fnP_f]
  refine ⟨⟨h5, by decide, by simp⟩, ?_⟩
  have e1 : ([V.int (c : Int), V.ref q] : List V).set (Int.toNat 0) (V.int ((c : Int) + 1)) = [V.int ((c + 1 : Nat) : Int), .ref q] := rfl
  rw [e1]
  generalize hh' : h.set st (.L [.int ((c + 1 : Nat) : Int), .ref q]) = h' at *
  have hs' : h'[st]? = some (.L [.int ((c + 1 : Nat) : Int), .ref q]) := by rw [← hh']; exact set_self hs
  have hq' : h'[q]? = some (.L (ys.map .int)) := by rw [← hh']; exact set_ne hq (Ne.symm hqs)
  refine ix0 _ _ _ _ hs' (ix1 _ _ _ _ hs' ?_)
  simp only [listP_r, getL_L, hq', cQ, cN, cL, cM, cG, cH, cX, cY, cR, boolP_b, List.length_map, getP_some, getT_T, nextP_next, nextP_ret, endP_ret, endP_next, cond_true, cond_false, tupP_r, intP_i, fnP_f]
  by_cases hle : c + 1 ≤ ys.length
  · rw [decide_eq_true (by omega)]
    simp (config := { decide := true }) only [if_true, cond_true, qSs0, qSs1, nextP_next, nextP_ret, qS0, qS1, qS2, qS3, qS4, qS5, qS6, qS7, qS8, qS9, qS10, qS11, qS12, tupP_r, getT_T, getP_some, cond_false, qE0, qE1, qE2, qE3, qE4, qE5, qE6, qE7, qE8, qE9, qE10, qE11, qE12, qE13, qE14, qE15, qE16, qE17, qE18, qE19, qE20, qE21, qE22, qE23, qE24, qE25, qE26, List.getElem?_cons_zero, List.getElem?_cons_succ, getL_L, endP_ret, endP_next, listP_r, intP_i, boolP_b, fnP_f]
    refine ix1 _ _ _ _ hs' (ix0 _ _ _ _ hs' ?_)
    simp only [bA, bC, bS, bM, bR, rep1_one, bD, bO, bL, bH, bN, bU, bP, getL_L, getP_some, getT_T, nextP_next, nextP_ret, endP_ret, endP_next, cond_true, cond_false, listP_r, tupP_r, intP_i, boolP_b, fnP_f]
    have hix : ∀ KK : V → Prop, KK (.int (ys[c]'(by omega))) → ixP (.ref q) (.int (((c + 1 : Nat) : Int) - 1)) h' KK := by
      intro KK k
      have e : ((c + 1 : Nat) : Int) - 1 = (c : Int) := by omega
      rw [e]
      simp only [iX, ixO_L, ixO_T, getP_some, hq', List.length_map, getL_L, getT_T, nextP_next, nextP_ret, endP_ret, endP_next, cond_true, cond_false, listP_r, tupP_r, intP_i, boolP_b, fnP_f]
      refine ⟨⟨by omega, by omega⟩, ?_⟩
      rw [if_neg (by omega), Int.toNat_natCast]
      have : (ys.map V.int)[c]? = some (.int (ys[c]'(by omega))) := by simp [List.getElem?_eq_getElem (show c < ys.length by omega)]
      rw [this]; exact k
    refine hix _ ?_
    simp only [bA, bC, bS, bM, bR, rep1_one, bD, bO, bL, bH, bN, bU, bP, getL_L, getP_some, getT_T, nextP_next, nextP_ret, endP_ret, endP_next, cond_true, cond_false, listP_r, tupP_r, intP_i, boolP_b, fnP_f]
    exact ⟨hm0, fin _⟩
  · rw [decide_eq_false (by omega)]
    simp (config := { decide := true }) only [if_false, cond_false, qSs0, qSs1, nextP_next, nextP_ret, qS0, qS1, qS2, qS3, qS4, qS5, qS6, qS7, qS8, qS9, qS10, qS11, qS12, tupP_r, getT_T, getP_some, cond_true, qE0, qE1, qE2, qE3, qE4, qE5, qE6, qE7, qE8, qE9, qE10, qE11, qE12, qE13, qE14, qE15, qE16, qE17, qE18, qE19, qE20, qE21, qE22, qE23, qE24, qE25, qE26, List.getElem?_cons_zero, List.getElem?_cons_succ, getL_L, endP_ret, endP_next, listP_r, intP_i, boolP_b, fnP_f]
    refine ix0 _ _ _ _ hs' ?_
    simp only [bA, bC, bS, bM, bR, rep1_one, bD, bO, bL, bH, bN, bU, bP, getL_L, getP_some, getT_T, nextP_next, nextP_ret, endP_ret, endP_next, cond_true, cond_false, listP_r, tupP_r, intP_i, boolP_b, fnP_f]
    refine ⟨⟨by decide, by omega⟩, ix0 _ _ _ _ hs' ?_⟩
    simp only [bA, bC, bS, bM, bR, rep1_one, bD, bO, bL, bH, bN, bU, bP, getL_L, getP_some, getT_T, nextP_next, nextP_ret, endP_ret, endP_next, cond_true, cond_false, listP_r, tupP_r, intP_i, boolP_b, fnP_f]
    exact ⟨⟨by decide, by decide⟩, hm0, fin _⟩

theorem ev_limbs {d w n : Nat} {h : Hp} {Q : KV} (hw : WW w) (h5 : ro ≤ h.length) (hn : n < lim) (K : ∀ h' k, Ext h h' → h.length ≤ k → h'[k]? = some (.L (nl (dig (2 ^ w) n))) → Q (.ref k) h') :
    callD prg (d + 1) 268 [.int (n : Int), .int (w : Int)] h Q := by
  have p1 : prg 268 = some (2, p_law_limbs) := rfl
  have hB := hw.two
  have hT := hw.top
  have hw8 := hw.hi
  have l1 := dig_lim hB hn
  have b1 : (400 : Nat) < big := by decide
  have hpw : (2 : Int) ^ w = ((2 ^ w : Nat) : Int) := by rw [Int.natCast_pow]; rfl
  rw [callD_succ, p1]
  simp (config := { decide := true }) only [List.length_cons, List.length_nil, true_and, p_law_limbs, qSs0, qSs1, nextP_next, nextP_ret, qS0, qS1, qS2, qS3, qS4, qS5, qS6, qS7, qS8, qS9, qS10, qS11, qS12, tupP_r, getT_T, getP_some, cond_true, cond_false, qE0, qE1, qE2, qE3, qE4, qE5, qE6, qE7, qE8, qE9, qE10, qE11, qE12, qE13, qE14, qE15, qE16, qE17, qE18, qE19, qE20, qE21, qE22, qE23, qE24, qE25, qE26, qEs0, qEs1, qTs0, qTs1, qT0, qT1, getL_L, endP_ret, endP_next, listP_r, intP_i, boolP_b, fnP_f]
  refine while_inv (fun m lo h' => ∃ acc, lo 0 = some (.int (m : Int)) ∧ lo 1 = some (.int (w : Int)) ∧ lo 2 = some (.ref h.length) ∧ Ext h h' ∧ h'[h.length]? = some (.L (nl acc)) ∧ acc ++ dig (2 ^ w) m = dig (2 ^ w) n) ?_ n _ _
    ⟨[], rfl, rfl, rfl, Ext.push _ _, push_last _ _, rfl⟩
  intro m lo h' hI_
  refine ex1 hI_ fun acc hJ_ => and6 hJ_ fun f0 f1 f2 E hacc hd => ?_
  clear hJ_ hI_
  rcases Nat.eq_zero_or_pos m with h0 | h0
  · refine ⟨false, fun K1 k => ?_, fun e => (by cases e), fun _ => ?_⟩
    · simp only [f0, cQ, cN, cL, cM, cG, cH, cX, cY, cR, boolP_b, getP_some, getL_L, getT_T, nextP_next, nextP_ret, endP_ret, endP_next, cond_true, cond_false, listP_r, tupP_r, intP_i, fnP_f]
      rw [decide_eq_false (by omega)]; exact k
    · rw [nextP_next, f2]
      rw [h0, dig_zero, List.append_nil] at hd
      exact K _ _ E (Nat.le_refl _) (hd ▸ hacc)
  · refine ⟨true, fun K1 k => ?_, fun _ K' nx => ?_, fun e => (by cases e)⟩
    · simp only [f0, cQ, cN, cL, cM, cG, cH, cX, cY, cR, boolP_b, getP_some, getL_L, getT_T, nextP_next, nextP_ret, endP_ret, endP_next, cond_true, cond_false, listP_r, tupP_r, intP_i, fnP_f]
      rw [decide_eq_true (by omega)]; exact k
    · have hal : acc.length ≤ 200 := by
        have := congrArg List.length hd
        rw [List.length_append] at this
        omega
      simp (config := { decide := true }) only [qSs0, qSs1, nextP_next, nextP_ret, qS0, qS1, qS2, qS3, qS4, qS5, qS6, qS7, qS8, qS9, qS10, qS11, qS12, tupP_r, getT_T, getP_some, cond_true, cond_false, qE0, qE1, qE2, qE3, qE4, qE5, qE6, qE7, qE8, qE9, qE10, qE11, qE12, qE13, qE14, qE15, qE16, qE17, qE18, qE19, qE20, qE21, qE22, qE23, qE24, qE25, qE26, qT0, qT1, f0, f1, f2, bA, bC, bS, bM, bR, rep1_one, bD, bO, bL, bH, bN, bU, bP, getL_L, nP, listP_r, hacc, Int.toNat_natCast, hpw, fmod_nat, fdiv_nat, Int.natAbs_natCast, endP_ret, endP_next, intP_i, boolP_b, fnP_f]
      refine ⟨h5, ⟨by omega, by omega, trivial⟩, by omega, ?_⟩
      refine app_nl hacc h5 (by omega) ?_
      refine ⟨⟨by omega, by omega, trivial⟩, ⟨by omega, by omega⟩, ?_⟩
      refine nx (m / 2 ^ w) _ _ (Nat.div_lt_self h0 (by omega)) ⟨acc ++ [m % 2 ^ w], rfl, f1, f2, E.set (Nat.le_refl _), set_self hacc, ?_⟩
      rw [← hd, dig_pos hB h0, List.append_assoc]; rfl

theorem ev_lsigned {P : Nat → Prop} {d w : Nat} {z : Int} {h : Hp} {Q : KV} (hw : WW w) (hP : Old P h) (h5 : ro ≤ h.length) (hz : z.natAbs < lim) (K : ∀ h' v, Ext h h' → IsI P w h' v z → Q v h') :
    callD prg (d + 2) 275 [.int z, .int (w : Int)] h Q := by
  have p1 : prg 275 = some (2, p_law_signed) := rfl
  rw [callD_succ, p1]
  simp (config := { decide := true }) only [List.length_cons, List.length_nil, true_and, p_law_signed, qSs0, qSs1, nextP_next, nextP_ret, qS0, qS1, qS2, qS3, qS4, qS5, qS6, qS7, qS8, qS9, qS10, qS11, qS12, tupP_r, getT_T, getP_some, cond_true, cond_false, qE0, qE1, qE2, qE3, qE4, qE5, qE6, qE7, qE8, qE9, qE10, qE11, qE12, qE13, qE14, qE15, qE16, qE17, qE18, qE19, qE20, qE21, qE22, qE23, qE24, qE25, qE26, qEs0, qEs1, List.getElem?_cons_zero, List.getElem?_cons_succ, cQ, cN, cL, cM, cG, cH, cX, cY, cR, fnP_f, intP_i, getL_L, endP_ret, endP_next, listP_r, boolP_b]
  refine ev_limbs hw h5 hz fun h' k E hk hkk => ?_
  refine K _ _ (E.push' _) ⟨h'.length, k, rfl, push_last _ _, push_get hkk, hP.fresh E.len, hP.fresh hk⟩

theorem ev_lplain {d w n k m : Nat} {h : Hp} {Q : KV} (hw : WW w) (hk : h[k]? = some (.T [.bool false, .ref m])) (hm : h[m]? = some (.L (nl (dig (2 ^ w) n)))) (hn : n < 2 ^ 40) (K : ∀ h', Ext h h' → Q (.int (n : Int)) h') :
    callD prg (d + 1) 282 [.ref k, .int (w : Int)] h Q := by
  have p1 : prg 282 = some (2, p_law_plain) := rfl
  have hB := hw.two
  have hT := hw.top
  have hw8 := hw.hi
  have hpw : (2 : Int) ^ w = ((2 ^ w : Nat) : Int) := by rw [Int.natCast_pow]; rfl
  rw [callD_succ, p1]
  simp (config := { decide := true }) only [List.length_cons, List.length_nil, true_and, p_law_plain, qSs0, qSs1, nextP_next, nextP_ret, qS0, qS1, qS2, qS3, qS4, qS5, qS6, qS7, qS8, qS9, qS10, qS11, qS12, tupP_r, getT_T, getP_some, cond_true, cond_false, qE0, qE1, qE2, qE3, qE4, qE5, qE6, qE7, qE8, qE9, qE10, qE11, qE12, qE13, qE14, qE15, qE16, qE17, qE18, qE19, qE20, qE21, qE22, qE23, qE24, qE25, qE26, qEs0, qEs1, qT0, qT1, upd, Nat.reduceBEq, if_true, if_false, List.getElem?_cons_zero, List.getElem?_cons_succ, getL_L, endP_ret, endP_next, listP_r, intP_i, boolP_b, fnP_f]
  refine ix_t1 hk ?_
  simp only [listP_r, getL_L, hm, push_last, getP_some, getT_T, nextP_next, nextP_ret, endP_ret, endP_next, cond_true, cond_false, tupP_r, intP_i, boolP_b, fnP_f]
  have hrev : (nl (dig (2 ^ w) n)).reverse = nl (dig (2 ^ w) n).reverse := by simp
  rw [hrev]
  generalize hA : dig (2 ^ w) n = A at *
  have vA : val (2 ^ w) A = n := by rw [← hA, val_dig hB]
  have oA : Ok (2 ^ w) A := by rw [← hA]; exact ok_dig hB _
  refine for_list (fun k' lo h' => lo 0 = some (.ref k) ∧ lo 1 = some (.int (w : Int)) ∧ lo 2 = some (.int ((val (2 ^ w) (A.drop (A.length - k')) : Nat) : Int)) ∧ h' = h ++ [.L (nl A.reverse)]) ?_ ?_ ?_ ?_
  · refine ⟨rfl, rfl, ?_, rfl⟩
    rw [Nat.sub_zero, List.drop_length]; rfl
  · rintro k' lo h' ⟨_, _, _, rfl⟩
    exact push_last _ _
  · rintro k' hk' lo h' K' ⟨f0, f1, f2, rfl⟩ nx rr
    have hkl : k' < A.length := by simpa using hk'
    have hi : A.length - 1 - k' < A.length := by omega
    have ex : A.reverse[k'] = A[A.length - 1 - k'] := by rw [List.getElem_reverse]
    have e1 : A.length - k' = (A.length - 1 - k') + 1 := by omega
    have hle : val (2 ^ w) (A.drop (A.length - k')) ≤ n := by
      have := val_take_drop (2 ^ w) A (A.length - k') (by omega)
      have h1 := Nat.mul_le_mul_right (val (2 ^ w) (A.drop (A.length - k'))) (show 1 ≤ (2 ^ w) ^ (A.length - k') from Nat.pow_pos (by omega))
      omega
    simp (config := { decide := true }) only [qSs0, qSs1, nextP_next, nextP_ret, qS0, qS1, qS2, qS3, qS4, qS5, qS6, qS7, qS8, qS9, qS10, qS11, qS12, tupP_r, getT_T, getP_some, cond_true, cond_false, qE0, qE1, qE2, qE3, qE4, qE5, qE6, qE7, qE8, qE9, qE10, qE11, qE12, qE13, qE14, qE15, qE16, qE17, qE18, qE19, qE20, qE21, qE22, qE23, qE24, qE25, qE26, qT0, qT1, upd, Nat.reduceBEq, if_true, if_false, f0, f1, f2, bA, bC, bS, bM, bR, rep1_one, bD, bO, bL, bH, bN, bU, bP, getL_L, Int.toNat_natCast, hpw, Int.natAbs_natCast, endP_ret, endP_next, listP_r, intP_i, boolP_b, fnP_f]
    refine ⟨⟨by omega, by omega, trivial⟩, ⟨by omega, by omega⟩, ?_⟩
    refine nx _ _ ⟨f0, f1, ?_, rfl⟩
    have e2 : A.length - (k' + 1) = A.length - 1 - k' := by omega
    simp only [upd, Nat.reduceBEq, cond_true, cond_false, if_true, getP_some, getL_L, getT_T, nextP_next, nextP_ret, endP_ret, endP_next, listP_r, tupP_r, intP_i, boolP_b, fnP_f]
    rw [e2, List.drop_eq_getElem_cons hi, val, e1, ex]
    congr 2
    rw [Int.natCast_add, Int.natCast_mul, Int.mul_comm]
    omega
  · rintro lo h' ⟨f0, f1, f2, rfl⟩
    simp (config := { decide := true }) only [qSs0, qSs1, nextP_next, nextP_ret, qS0, qS1, qS2, qS3, qS4, qS5, qS6, qS7, qS8, qS9, qS10, qS11, qS12, tupP_r, getT_T, getP_some, cond_true, cond_false, qE0, qE1, qE2, qE3, qE4, qE5, qE6, qE7, qE8, qE9, qE10, qE11, qE12, qE13, qE14, qE15, qE16, qE17, qE18, qE19, qE20, qE21, qE22, qE23, qE24, qE25, qE26, f0, getL_L, endP_ret, endP_next, listP_r, intP_i, boolP_b, fnP_f]
    refine ix_t0 (push_get hk) ?_
    simp (config := { decide := true }) only [boolP_b, if_false, cond_false, f2, qE0, qE1, qE2, qE3, qE4, qE5, qE6, qE7, qE8, qE9, qE10, qE11, qE12, qE13, qE14, qE15, qE16, qE17, qE18, qE19, qE20, qE21, qE22, qE23, qE24, qE25, qE26, getP_some, getL_L, getT_T, nextP_next, nextP_ret, endP_ret, endP_next, cond_true, listP_r, tupP_r, intP_i, fnP_f]
    rw [List.length_reverse, Nat.sub_self, List.drop_zero, vA]
    exact K _ (Ext.push _ _)
end Mine

set_option linter.unusedVariables false
set_option linter.unusedSimpArgs false
set_option autoImplicit false
set_option maxRecDepth 8000
namespace Mine
open PySem

noncomputable def dI (w : Nat) (z : Int) : PyData := .tuple [.bool (decide (z < 0)), .list ((dig (2 ^ w) z.natAbs).map fun (n : Nat) => PyData.int (n : Int))]
theorem dens_nl {h : Hp} : ∀ l : List Nat, Dens h (nl l) (l.map fun (n : Nat) => PyData.int (n : Int))
  | [] => .nil
  | x :: r => .cons .i (dens_nl r)
theorem depth_nl : ∀ l : List Nat, PyData.depthAll (l.map fun (n : Nat) => PyData.int (n : Int)) = 0
  | [] => by simp [PyData.depthAll]
  | x :: r => by
    have := depth_nl r
    simp only [List.map_cons, PyData.depthAll, this]
    rfl
theorem IsI.den {P : Nat → Prop} {w : Nat} {h : Hp} {v : V} {z : Int} (x : IsI P w h v z) : Den h v (dI w z) := by
  obtain ⟨k, m, rfl, h1, h2, _⟩ := x
  exact .T h1 (.cons .b (.cons (.L h2 (dens_nl _)) .nil))
theorem depth_dI (w : Nat) (z : Int) : (dI w z).depth ≤ 2 := by
  simp only [dI, PyData.depth, PyData.depthAll, depth_nl]
  omega
theorem depth_map {α : Type} {f : α → PyData} {k : Nat} (hf : ∀ a, (f a).depth ≤ k) : ∀ l : List α, PyData.depthAll (l.map f) ≤ k
  | [] => by simp [PyData.depthAll]
  | x :: r => by
    have h1 := depth_map hf r
    have h2 := hf x
    simp only [List.map_cons, PyData.depthAll]
    omega
theorem dens_of {h : Hp} : ∀ (vs : List V) (n : Nat) (f : Nat → PyData), vs.length = n → (∀ j, j < n → ∃ x, vs[j]? = some x ∧ Den h x (f j)) → Dens h vs ((List.range n).map f)
  | [], n, f, hl, _ => by
    simp at hl; subst hl; exact .nil
  | v :: vs, n, f, hl, hx => by
    obtain ⟨n, rfl⟩ : ∃ m, n = m + 1 := ⟨n - 1, by simp at hl; omega⟩
    rw [List.range_succ_eq_map, List.map_cons, List.map_map]
    obtain ⟨x, e, d⟩ := hx 0 (by omega)
    simp at e; subst e
    refine .cons d (dens_of vs n (f ∘ Nat.succ) (by simpa using hl) fun j hj => ?_)
    obtain ⟨y, e, d⟩ := hx (j + 1) (by omega)
    exact ⟨y, by simpa using e, d⟩
noncomputable def dRow (w n : Nat) (f : Nat → Int) : PyData := .list ((List.range n).map fun j => dI w (f j))
theorem IsRow.den {P : Nat → Prop} {w : Nat} {h : Hp} {v : V} {n : Nat} {f : Nat → Int} (x : IsRow P w h v n f) : Den h v (dRow w n f) := by
  obtain ⟨k, vs, rfl, _, h1, h2, h3⟩ := x
  refine .L h1 (dens_of vs n _ h2 fun j hj => ?_)
  obtain ⟨x, e, i⟩ := h3 j hj
  exact ⟨x, e, i.den⟩
theorem depth_dRow (w n : Nat) (f : Nat → Int) : (dRow w n f).depth ≤ 3 := by
  have := depth_map (fun j => depth_dI w (f j)) (List.range n)
  simp only [dRow, PyData.depth]
  omega
noncomputable def dMat (w n : Nat) (F : Nat → Nat → Int) : PyData := .list ((List.range n).map fun i => dRow w n (F i))
theorem IsMat.den {P : Nat → Prop} {w : Nat} {h : Hp} {pm : Nat} {n : Nat} {F : Nat → Nat → Int} (x : IsMat P w h pm n F) : Den h (.ref pm) (dMat w n F) := by
  obtain ⟨rows, h1, h2, h3⟩ := x
  refine .L h1 (dens_of rows n _ h2 fun i hi => ?_)
  obtain ⟨x, e, r⟩ := h3 i hi
  exact ⟨x, e, r.den⟩
theorem depth_dMat (w n : Nat) (F : Nat → Nat → Int) : (dMat w n F).depth ≤ 4 := by
  have := depth_map (fun i => depth_dRow w n (F i)) (List.range n)
  simp only [dMat, PyData.depth]
  omega

theorem range_item {n k : Nat} {a : Int} {v : V} (h : ((rangeL a 1 n).map V.int)[k]? = some v) : k < n ∧ v = .int (a + k) := by
  rw [List.getElem?_map] at h
  cases e : (rangeL a 1 n)[k]? with
  | none => rw [e] at h; simp at h
  | some x =>
    rw [e] at h
    obtain ⟨h1, h2⟩ := rangeL_at a 1 n k x e
    simp at h
    exact ⟨h1, by rw [← h, h2, Int.mul_one]⟩

theorem ev_turned {d w g : Nat} {F : Nat → Nat → Int} {h : Hp} {Q : KV} (hm : IsMat NoP w h g 4 F) (K : ∀ h' k, Ext h h' → IsMat NoP w h' k 4 (fun i j => F j i) → Q (.ref k) h') :
    callD prg (d + 1) 172 [.ref g] h Q := by
  have p1 : prg 172 = some (1, p_m_turned) := rfl
  rw [callD_succ, p1]
  have hm' := hm
  obtain ⟨rows, h1, h2, h3⟩ := hm'
  simp (config := { decide := true }) only [List.length_cons, List.length_nil, true_and, p_m_turned, qSs0, qSs1, nextP_next, nextP_ret, qS0, qS1, qS2, qS3, qS4, qS5, qS6, qS7, qS8, qS9, qS10, qS11, qS12, tupP_r, getT_T, getP_some, cond_true, cond_false, qE0, qE1, qE2, qE3, qE4, qE5, qE6, qE7, qE8, qE9, qE10, qE11, qE12, qE13, qE14, qE15, qE16, qE17, qE18, qE19, qE20, qE21, qE22, qE23, qE24, qE25, qE26, qEs0, qEs1, List.getElem?_cons_zero, listP_r, getL_L, h1, h2, cQ, cN, cL, cM, cG, cH, cX, cY, cR, boolP_b, if_true, endP_ret, endP_next, intP_i, fnP_f]
  refine hm.row (i := 0) (by decide) rfl fun v0 r0 => ?_
  obtain ⟨k0, vs0, rfl, _, a1, a2, a3⟩ := r0
  simp only [a1, a2, intP_i, getP_some, getL_L, getT_T, nextP_next, nextP_ret, endP_ret, endP_next, cond_true, cond_false, listP_r, tupP_r, boolP_b, fnP_f]
  have er : rangeN 0 ((4 : Nat) : Int) 1 = 4 := by decide
  refine ⟨by decide, ?_⟩
  rw [er]
  refine compP_inv (fun k acc h' => Ext h h' ∧ acc.length = k ∧ ∀ j, j < k → ∃ v, acc[j]? = some v ∧ IsRow NoP w h' v 4 (fun i => F i j)) _ [] ?_ (fun _ _ _ _ => trivial) ?_ h ⟨Ext.refl _, rfl, fun j hj => by omega⟩
  · rintro k v acc h' K' hv ⟨E, hl, hacc⟩ nx
    obtain ⟨hk, rfl⟩ := range_item hv
    simp (config := { decide := true }) only [upd, Nat.reduceBEq, cond_true, cond_false, if_true, if_false, List.getElem?_cons_zero, E _ _ h1, getP_some, getL_L, getT_T, nextP_next, nextP_ret, endP_ret, endP_next, listP_r, tupP_r, intP_i, boolP_b, fnP_f]
    refine compP_inv (fun m acc2 h2 => h2 = h' ∧ acc2.length = m ∧ ∀ t, t < m → ∃ x, acc2[t]? = some x ∧ IsI NoP w h' x (F t k)) rows [] ?_ ?_ ?_ h' ⟨rfl, rfl, fun j hj => by omega⟩
    · rintro m u acc2 h2' K2 hu ⟨rfl, hl2, hacc2⟩ nx2
      have hm4 : m < 4 := by rw [← h2]; exact (List.getElem?_eq_some_iff.mp hu).1
      obtain ⟨u', hu', r⟩ := h3 m hm4
      rw [hu] at hu'; cases hu'
      refine (r.ext E).get (j := k) hk (by omega) fun x ix => ?_
      refine nx2 _ _ ⟨rfl, by simp [hl2], fun t ht => ?_⟩
      by_cases htm : t < m
      · obtain ⟨y, y1, y2⟩ := hacc2 t htm
        exact ⟨y, by rw [List.getElem?_append_left (by omega)]; exact y1, y2⟩
      · have htm : t = m := by omega
        subst htm
        exact ⟨x, by rw [List.getElem?_append_right (by omega), hl2]; simp, ix⟩
    · rintro m acc2 h2' ⟨rfl, _⟩
      exact E _ _ h1
    · rintro acc2 h2' ⟨rfl, hl2, hacc2⟩
      rw [h2] at hl2 hacc2
      refine nx _ _ ⟨E.push' _, by simp [hl], fun j hj => ?_⟩
      by_cases hjk : j < k
      · obtain ⟨y, y1, y2⟩ := hacc j hjk
        exact ⟨y, by rw [List.getElem?_append_left (by omega)]; exact y1, y2.ext (Ext.push _ _)⟩
      · have hjk : j = k := by omega
        subst hjk
        refine ⟨_, by rw [List.getElem?_append_right (by omega), hl]; simp, h2'.length, acc2, rfl, fun e => e, push_last _ _, hl2, fun t ht => ?_⟩
        obtain ⟨y, y1, y2⟩ := hacc2 t ht
        exact ⟨y, y1, y2.ext (Ext.push _ _)⟩
  · rintro acc h' ⟨E, hl, hacc⟩
    rw [List.length_map, rangeL_length] at hl hacc
    refine K _ _ (E.push' _) ⟨acc, push_last _ _, hl, fun i hi => ?_⟩
    obtain ⟨v, v1, v2⟩ := hacc i hi
    exact ⟨v, v1, v2.ext (Ext.push _ _)⟩

theorem prOf_B {t : Nat → Int} (ht : ∀ k, (t k).natAbs ≤ 9) : ∀ n, (prOf (gOf t) n).natAbs ≤ 32 ^ n := by
  have hg := gOf_32 ht
  intro n
  induction n with
  | zero => exact Nat.le_refl 1
  | succ n ih =>
    rw [prOf, Int.natAbs_mul, Nat.pow_succ]
    exact Nat.mul_le_mul ih (hg n)

noncomputable def lawD : List S := p_law.drop 5
theorem ev_lawD {d w pl pg : Nat} {t : Nat → Int} {lo : Lo} {h : Hp} {Q : KR} (hw : WW w) (h5 : ro ≤ h.length) (hb : Base h) (f3 : lo 3 = some (.int (w : Int))) (f5 : lo 5 = some (.ref pl)) (f7 : lo 7 = some (.ref pg)) (f8 : lo 8 = some (.int 1))
    (hm : IsMat NoP w h pg 4 (gridOf t)) (hl : h[pl]? = some (.L [.int (gOf t 0), .int (gOf t 1), .int (gOf t 2), .int (gOf t 3)])) (ht : ∀ k, (t k).natAbs ≤ 9)
    (K : ∀ lo' h', Q (.ret (.bool true)) lo' h') : wpSs (callD prg (d + 9)) lawD lo h Q := by
  simp (config := { decide := true }) only [lawD, p_law, List.drop_succ_cons, List.drop_zero, qSs0, qSs1, nextP_next, nextP_ret, qS0, qS1, qS2, qS3, qS4, qS5, qS6, qS7, qS8, qS9, qS10, qS11, qS12, tupP_r, getT_T, getP_some, cond_true, cond_false, qE0, qE1, qE2, qE3, qE4, qE5, qE6, qE7, qE8, qE9, qE10, qE11, qE12, qE13, qE14, qE15, qE16, qE17, qE18, qE19, qE20, qE21, qE22, qE23, qE24, qE25, qE26, qEs0, qEs1, fnP_f, f7, getL_L, endP_ret, endP_next, listP_r, intP_i, boolP_b]
  refine ev_turned (d := d + 8) hm fun h1 k E1 hT => ?_
  simp only [cQ, cN, cL, cM, cG, cH, cX, cY, cR, getP_some, getL_L, getT_T, nextP_next, nextP_ret, endP_ret, endP_next, cond_true, cond_false, listP_r, tupP_r, intP_i, boolP_b, fnP_f]
  refine ⟨dMat w 4 (gridOf t), ⟨?_, (hm.ext E1).den, Nat.le_trans (depth_dMat _ _ _) (by decide)⟩, ?_⟩
  · refine (hT.congr fun i _ j _ => ?_).den
    show t _ = t _
    rw [Nat.gcd_comm]
  refine ⟨trivial, ?_⟩
  obtain ⟨rows, m1, m2, m3⟩ := hm
  refine for_up (fun k lo' h' => lo' 3 = lo 3 ∧ lo' 5 = lo 5 ∧ lo' 7 = lo 7 ∧ lo' 8 = some (.int (prOf (gOf t) k)) ∧ Ext h h') 4 (by decide) ⟨rfl, rfl, rfl, f8, E1⟩ ?_ ?_
  · rintro k lo' h' K' hk ⟨g3, g5, g7, g8, E⟩ nx rr
    have hpB := prOf_B ht k
    have h32 : 32 ^ k ≤ 32 ^ 4 := Nat.pow_le_pow_right (by decide) (by omega)
    have e32 : (32 : Nat) ^ 4 = 1048576 := by decide
    have hgk : (gOf t k).natAbs ≤ 32 := gOf_32 ht k
    have hixl : ∀ KK : V → Prop, KK (.int (gOf t k)) → ixP (.ref pl) (.int ((1 : Int) + (k : Int) - 1)) h' KK := by
      intro KK q
      rw [show (1 : Int) + (k : Int) - 1 = (k : Int) by omega]
      have h4 : k = 0 ∨ k = 1 ∨ k = 2 ∨ k = 3 := by omega
      simp only [iX, ixO_L, ixO_T, getP_some, E _ _ hl, getL_L, getT_T, nextP_next, nextP_ret, endP_ret, endP_next, cond_true, cond_false, listP_r, tupP_r, intP_i, boolP_b, fnP_f]
      rcases h4 with rfl | rfl | rfl | rfl
      all_goals exact ⟨⟨by simp, by simp⟩, q⟩
    simp (config := { decide := true }) only [qSs0, qSs1, nextP_next, nextP_ret, qS0, qS1, qS2, qS3, qS4, qS5, qS6, qS7, qS8, qS9, qS10, qS11, qS12, tupP_r, getT_T, getP_some, cond_true, cond_false, qE0, qE1, qE2, qE3, qE4, qE5, qE6, qE7, qE8, qE9, qE10, qE11, qE12, qE13, qE14, qE15, qE16, qE17, qE18, qE19, qE20, qE21, qE22, qE23, qE24, qE25, qE26, qEs0, qEs1, qT0, qT1, upd, Nat.reduceBEq, if_true, if_false, g3, g5, g7, g8, f3, f5, f7, bA, bC, bS, bM, bR, rep1_one, bD, bO, bL, bH, bN, bU, bP, getL_L, endP_ret, endP_next, listP_r, intP_i, boolP_b, fnP_f]
    refine hixl _ ?_
    have hs : (0 : Int) ≤ (1 : Int) + (k : Int) := by omega
    have hsn : ((1 : Int) + (k : Int)).toNat = k + 1 := by omega
    simp (config := { decide := true }) only [bA, bC, bS, bM, bR, rep1_one, bD, bO, bL, bH, bN, bU, bP, getL_L, upd, Nat.reduceBEq, cond_true, cond_false, if_true, if_false, listP_r, E _ _ m1, intP_i, hsn, getP_some, getT_T, nextP_next, nextP_ret, endP_ret, endP_next, tupP_r, boolP_b, fnP_f]
    refine ⟨⟨by omega, by omega⟩, by omega, ?_⟩
    simp only [push_last]
    have m2' : (rows.take (k + 1)).length = k + 1 := by rw [List.length_take]; omega
    refine compP_inv (fun m acc h2 => Ext (h' ++ [.L (rows.take (k + 1))]) h2 ∧ acc.length = m ∧ ∀ j, j < m → ∃ v, acc[j]? = some v ∧ IsRow NoP w h2 v (k + 1) (gridOf t j)) _ [] ?_ ?_ ?_ _ ⟨Ext.refl _, rfl, fun j hj => by omega⟩
    · rintro m v acc h2 K2 hv ⟨E2, hl2, hacc⟩ nx2
      have hmk : m < k + 1 := by rw [← m2']; exact (List.getElem?_eq_some_iff.mp hv).1
      rw [List.getElem?_take, if_pos hmk] at hv
      obtain ⟨v', hv', kr, vs, rfl, _, r1, r2, r3⟩ := m3 m (by omega)
      rw [hv] at hv'; cases hv'
      simp (config := { decide := true }) only [upd, Nat.reduceBEq, cond_true, cond_false, if_true, if_false, E2 _ _ (push_get (E _ _ r1)), hsn, getP_some, getL_L, getT_T, nextP_next, nextP_ret, endP_ret, endP_next, listP_r, tupP_r, intP_i, boolP_b, fnP_f]
      refine ⟨by omega, ?_⟩
      refine nx2 _ _ ⟨E2.push' _, by simp [hl2], fun j hj => ?_⟩
      by_cases hjm : j < m
      · obtain ⟨y, y1, y2⟩ := hacc j hjm
        exact ⟨y, by rw [List.getElem?_append_left (by omega)]; exact y1, y2.ext (Ext.push _ _)⟩
      · have hjm : j = m := by omega
        subst hjm
        refine ⟨_, by rw [List.getElem?_append_right (by omega), hl2]; simp, h2.length, vs.take (k + 1), rfl, fun e => e, push_last _ _, by rw [List.length_take]; omega, fun s hs => ?_⟩
        obtain ⟨x, x1, x2⟩ := r3 s (by omega)
        exact ⟨x, by rw [List.getElem?_take, if_pos hs]; exact x1, ((x2.ext E).ext ((Ext.push _ _).trans E2)).ext (Ext.push _ _)⟩
    · rintro m acc h2 ⟨E2, _⟩
      exact E2 _ _ (push_last _ _)
    · rintro acc h2 ⟨E2, hl2, hacc⟩
      rw [m2'] at hl2 hacc
      have E02 : Ext h (h2 ++ [Ob.L acc]) := ((E.push' _).trans E2).push' _
      refine ev_det (d := d) (n := k + 1) hw (Nat.le_trans h5 E02.len) (hb.ext E02) ⟨acc, push_last _ _, hl2, fun i hi => ?_⟩ (by omega) (by omega) ht fun h3 v3 E3 i3 => ?_
      · obtain ⟨y, y1, y2⟩ := hacc i hi
        exact ⟨y, y1, y2.ext (Ext.push _ _)⟩
      · have hpB' := prOf_B ht (k + 1)
        have h32' : 32 ^ (k + 1) ≤ 32 ^ 4 := Nat.pow_le_pow_right (by decide) (by omega)
        refine ev_lsigned (P := NoP) (d := d + 7) hw (fun _ e => e.elim) (Nat.le_trans h5 (E02.trans E3).len) ?_ fun h4 v4 E4 i4 => ?_
        · show (prOf (gOf t) (k + 1)).natAbs < lim
          have : (1048576 : Nat) < lim := by decide
          omega
        · have i4 : IsI NoP w h4 v4 (prOf (gOf t) (k + 1)) := i4
          have i3 := i3.ext E4
          have d3 := i3.den
          have d4 := i4.den
          obtain ⟨k3, _, rfl, _⟩ := i3
          obtain ⟨k4, _, rfl, _⟩ := i4
          simp only [cQ, cN, cL, cM, cG, cH, cX, cY, cR, getP_some, getL_L, getT_T, nextP_next, nextP_ret, endP_ret, endP_next, cond_true, cond_false, listP_r, tupP_r, intP_i, boolP_b, fnP_f]
          refine ⟨_, ⟨d3, d4, Nat.le_trans (depth_dI _ _) (by decide)⟩, ?_⟩
          exact nx _ _ ⟨g3, g5, g7, by simp [upd]; rfl, (E02.trans E3).trans E4⟩
  · rintro lo' h' _
    simp only [qSs0, qSs1, nextP_next, nextP_ret, qS0, qS1, qS2, qS3, qS4, qS5, qS6, qS7, qS8, qS9, qS10, qS11, qS12, tupP_r, getT_T, getP_some, cond_true, cond_false, qE0, qE1, qE2, qE3, qE4, qE5, qE6, qE7, qE8, qE9, qE10, qE11, qE12, qE13, qE14, qE15, qE16, qE17, qE18, qE19, qE20, qE21, qE22, qE23, qE24, qE25, qE26, getL_L, endP_ret, endP_next, listP_r, intP_i, boolP_b, fnP_f]
    exact K _ _
end Mine

set_option linter.unusedVariables false
set_option linter.unusedSimpArgs false
set_option autoImplicit false
set_option maxRecDepth 8000
namespace Mine
open PySem

noncomputable def lawC : List S := p_law.drop 3
theorem lawC_eq : lawC =
  .asgT [(.nm 7), (.nm 8)] [(.lst []), (.i 1)] ::
   .forR 2 (.i 1) (.i 5) (.i 1) [.asg (.nm 9) (.lst []), .forR 6 (.i 1) (.i 5) (.i 1) [.asg (.nm 10) (.call (.g (.fn 21)) [(.call (.g (.fn 268)) [(.x 2), (.x 3)]), (.call (.g (.fn 268)) [(.x 6), (.x 3)]), (.x 3), (.g (.fn 254))]), .app (.x 9) (.call (.g (.fn 275)) [(.ix (.x 4) (.bin .sub (.call (.g (.fn 282)) [(.tup [(.b false), (.x 10)]), (.x 3)]) (.i 1))), (.x 3)])], .app (.x 7) (.x 9)] :: lawD := rfl

theorem ev_lawC {d w pt pl : Nat} {t : Nat → Int} {lo : Lo} {h : Hp} {Q : KR} (hw : WW w) (h5 : ro ≤ h.length) (hb : Base h) (f3 : lo 3 = some (.int (w : Int))) (f4 : lo 4 = some (.ref pt)) (f5 : lo 5 = some (.ref pl))
    (hpt : h[pt]? = some (.L [.int (t 0), .int (t 1), .int (t 2), .int (t 3)])) (hl : h[pl]? = some (.L [.int (gOf t 0), .int (gOf t 1), .int (gOf t 2), .int (gOf t 3)])) (ht : ∀ k, (t k).natAbs ≤ 9)
    (K : ∀ lo' h', Q (.ret (.bool true)) lo' h') : wpSs (callD prg (d + 9)) lawC lo h Q := by
  have b1 : (1000 : Nat) < big := by decide
  simp (config := { decide := true }) only [lawC_eq, qSs0, qSs1, nextP_next, nextP_ret, qS0, qS1, qS2, qS3, qS4, qS5, qS6, qS7, qS8, qS9, qS10, qS11, qS12, tupP_r, getT_T, getP_some, cond_true, cond_false, qE0, qE1, qE2, qE3, qE4, qE5, qE6, qE7, qE8, qE9, qE10, qE11, qE12, qE13, qE14, qE15, qE16, qE17, qE18, qE19, qE20, qE21, qE22, qE23, qE24, qE25, qE26, qEs0, qEs1, qTs0, qTs1, qT0, qT1, intP_i, getL_L, endP_ret, endP_next, listP_r, boolP_b, fnP_f]
  refine ⟨trivial, ?_⟩
  generalize hpg : h.length = pg at *
  have E0 : Ext h (h ++ [Ob.L []]) := Ext.push _ _
  have h0g : (h ++ [Ob.L []])[pg]? = some (.L []) := by rw [← hpg]; exact push_last _ _
  have P1sub : ∀ a, NoP a → (a = pg) := fun a e => e.elim
  refine for_up (fun i lo' h' => ∃ rows, lo' 3 = lo 3 ∧ lo' 4 = lo 4 ∧ lo' 5 = lo 5 ∧ lo' 7 = some (.ref pg) ∧ lo' 8 = some (.int 1) ∧ Ext h h' ∧ h'[pg]? = some (.L rows) ∧ rows.length = i ∧ ∀ i', i' < i → ∃ v, rows[i']? = some v ∧ IsRow (fun a => a = pg) w h' v 4 (gridOf t i')) 4 (by decide)
    ⟨[], rfl, rfl, rfl, rfl, rfl, E0, h0g, rfl, fun i' hi' => by omega⟩ ?_ ?_
  · intro i lo' h' K' hi hI_ nx rr
    refine ex1 hI_ fun rows hJ_ => and9 hJ_ fun g3 g4 g5 g7 g8 E hg hrl hrows => ?_
    clear hJ_ hI_
    have hgl := lt_of_get hg
    refine ⟨trivial, ?_⟩
    generalize hpr : h'.length = pr at *
    have E1 : Ext h' (h' ++ [Ob.L []]) := Ext.push _ _
    have hr0 : (h' ++ [Ob.L []])[pr]? = some (.L []) := by rw [← hpr]; exact push_last _ _
    generalize hP2 : (fun a => a = pg ∨ a = pr) = P2
    have P2g : P2 pg := by rw [← hP2]; exact .inl rfl
    have P2r : P2 pr := by rw [← hP2]; exact .inr rfl
    have P2s : ∀ a, a = pg → P2 a := fun a e => by rw [← hP2]; exact .inl e
    have P2old : ∀ h'' : Hp, pr < h''.length → Old P2 h'' := fun h'' hl a ha => by
      rw [← hP2] at ha
      rcases ha with ha | ha
      · have ha : a = pg := ha
        omega
      · have ha : a = pr := ha
        omega
    have ei : (1 : Int) + (i : Int) = ((i + 1 : Nat) : Int) := by omega
    refine for_up (fun j lo'' h'' => ∃ ys, lo'' 2 = some (.int ((1 : Int) + (i : Int))) ∧ lo'' 3 = lo 3 ∧ lo'' 4 = lo 4 ∧ lo'' 5 = lo 5 ∧ lo'' 7 = some (.ref pg) ∧ lo'' 8 = some (.int 1) ∧ lo'' 9 = some (.ref pr) ∧ Ext h h'' ∧ pr < h''.length ∧ h''[pg]? = some (.L rows) ∧
        (∀ i', i' < i → ∃ v, rows[i']? = some v ∧ IsRow P2 w h'' v 4 (gridOf t i')) ∧ h''[pr]? = some (.L ys) ∧ ys.length = j ∧ ∀ j', j' < j → ∃ x, ys[j']? = some x ∧ IsI P2 w h'' x (gridOf t i j')) 4 (by decide)
      ⟨[], rfl, g3, g4, g5, g7, g8, rfl, E.trans E1, by simp; omega, E1 _ _ hg, fun i' hi' => ?_, hr0, rfl, fun j' hj' => by omega⟩ ?_ ?_
    · obtain ⟨v, v1, v2⟩ := hrows i' hi'
      refine ⟨v, v1, ?_⟩
      rw [← hP2]
      exact (v2.grow (a := pr) (by omega)).ext E1
    · intro j lo'' h'' K2 hj hI_ nx2 rr2
      refine ex1 hI_ fun ys hJ_ => and14 hJ_ fun k2 k3 k4 k5 k7 k8 k9 E2 hl2 hg2 hrows2 hys hyl hyy => ?_
      clear hJ_ hI_
      have ej : (1 : Int) + (j : Int) = ((j + 1 : Nat) : Int) := by omega
      have h5'' : ro ≤ h''.length := Nat.le_trans (by omega) E2.len
      simp (config := { decide := true }) only [qSs0, qSs1, nextP_next, nextP_ret, qS0, qS1, qS2, qS3, qS4, qS5, qS6, qS7, qS8, qS9, qS10, qS11, qS12, tupP_r, getT_T, getP_some, cond_true, cond_false, qE0, qE1, qE2, qE3, qE4, qE5, qE6, qE7, qE8, qE9, qE10, qE11, qE12, qE13, qE14, qE15, qE16, qE17, qE18, qE19, qE20, qE21, qE22, qE23, qE24, qE25, qE26, qEs0, qEs1, qT0, qT1, fnP_f, upd, Nat.reduceBEq, if_true, if_false, k2, k3, k4, k5, k7, k8, k9, f3, f4, f5, ei, ej, getL_L, endP_ret, endP_next, listP_r, intP_i, boolP_b]
      refine ev_limbs (d := d + 8) hw h5'' (sm_lim' (by omega)) fun h1 a1 X1 al1 ha1 => ?_
      refine ev_limbs (d := d + 8) hw (Nat.le_trans h5'' X1.len) (sm_lim' (by omega)) fun h2 a2 X2 al2 ha2 => ?_
      refine ev_gcd (d := d + 4) hw (Nat.le_trans h5'' (X1.trans X2).len) (X2 _ _ ha1) ha2 (by omega) (by omega) fun h3 a3 X3 ha3 => ?_
      have X03 := (X1.trans X2).trans X3
      simp (config := { decide := true }) only [upd, Nat.reduceBEq, cond_true, cond_false, if_true, if_false, k9, nP, listP_r, getL_L, X03 _ _ hys, k4, f4, k3, f3, getP_some, getT_T, nextP_next, nextP_ret, endP_ret, endP_next, tupP_r, intP_i, boolP_b, fnP_f]
      refine ⟨by omega, ?_⟩
      have hgle : Nat.gcd (i + 1) (j + 1) ≤ i + 1 := Nat.gcd_le_left _ (by omega)
      have hgpos : 0 < Nat.gcd (i + 1) (j + 1) := Nat.gcd_pos_of_pos_left _ (by omega)
      refine ev_lplain (d := d + 8) hw (push_last _ _) (push_get ha3) (by omega) fun h4 X4 => ?_
      have X04 := X03.trans ((Ext.push _ _).trans X4)
      have hixt : ∀ KK : V → Prop, KK (.int (gridOf t i j)) → ixP (.ref pt) (.int (((Nat.gcd (i + 1) (j + 1) : Nat) : Int) - 1)) h4 KK := by
        intro KK q
        unfold gridOf at q
        have h4 : Nat.gcd (i + 1) (j + 1) = 1 ∨ Nat.gcd (i + 1) (j + 1) = 2 ∨ Nat.gcd (i + 1) (j + 1) = 3 ∨ Nat.gcd (i + 1) (j + 1) = 4 := by omega
        simp only [iX, ixO_L, ixO_T, getP_some, X04 _ _ (E2 _ _ hpt), getL_L, getT_T, nextP_next, nextP_ret, endP_ret, endP_next, cond_true, cond_false, listP_r, tupP_r, intP_i, boolP_b, fnP_f]
        rcases h4 with e | e | e | e <;> rw [e] at q ⊢
        all_goals exact ⟨⟨by simp, by simp⟩, q⟩
      simp only [bA, bC, bS, bM, bR, rep1_one, bD, bO, bL, bH, bN, bU, bP, getL_L, getP_some, getT_T, nextP_next, nextP_ret, endP_ret, endP_next, cond_true, cond_false, listP_r, tupP_r, intP_i, boolP_b, fnP_f]
      refine hixt _ ?_
      have X04l := X04.len
      refine ev_lsigned (P := P2) (d := d + 7) hw (P2old _ (by omega)) (by omega) (Nat.lt_of_le_of_lt (ht _) (by decide)) fun h6 v6 X6 i6 => ?_
      have X06 := X04.trans X6
      have X06l := X06.len
      simp only [aP, getL_L, X06 _ _ hys, getP_some, getT_T, nextP_next, nextP_ret, endP_ret, endP_next, cond_true, cond_false, listP_r, tupP_r, intP_i, boolP_b, fnP_f]
      refine ⟨⟨by omega, by omega⟩, ?_⟩
      refine nx2 _ _ ⟨ys ++ [v6], k2, k3, k4, k5, k7, k8, k9, (E2.trans X06).set (by omega), by simp; omega, set_ne (X06 _ _ hg2) (by omega), fun i' hi' => ?_, set_self (X06 _ _ hys), by simp [hyl], fun j' hj' => ?_⟩
      · obtain ⟨v, v1, v2⟩ := hrows2 i' hi'
        exact ⟨v, v1, (v2.ext X06).set P2r _⟩
      · by_cases hjj : j' < j
        · obtain ⟨y, y1, y2⟩ := hyy j' hjj
          exact ⟨y, by rw [List.getElem?_append_left (by omega)]; exact y1, (y2.ext X06).set P2r _⟩
        · have hjj : j' = j := by omega
          subst hjj
          exact ⟨v6, by rw [List.getElem?_append_right (by omega), hyl]; simp, i6.set P2r _⟩
    · intro lo'' h'' hI_
      refine ex1 hI_ fun ys hJ_ => and14 hJ_ fun k2 k3 k4 k5 k7 k8 k9 E2 hl2 hg2 hrows2 hys hyl hyy => ?_
      clear hJ_ hI_
      simp (config := { decide := true }) only [qSs0, qSs1, nextP_next, nextP_ret, qS0, qS1, qS2, qS3, qS4, qS5, qS6, qS7, qS8, qS9, qS10, qS11, qS12, tupP_r, getT_T, getP_some, cond_true, cond_false, qE0, qE1, qE2, qE3, qE4, qE5, qE6, qE7, qE8, qE9, qE10, qE11, qE12, qE13, qE14, qE15, qE16, qE17, qE18, qE19, qE20, qE21, qE22, qE23, qE24, qE25, qE26, k7, k9, nP, listP_r, getL_L, hg2, aP, endP_ret, endP_next, intP_i, boolP_b, fnP_f]
      refine ⟨by omega, ⟨by omega, by omega⟩, ?_⟩
      refine nx _ _ ⟨rows ++ [.ref pr], k3, k4, k5, k7, k8, E2.set (by omega), set_self hg2, by simp [hrl], fun i' hi' => ?_⟩
      by_cases hii : i' < i
      · obtain ⟨v, v1, v2⟩ := hrows2 i' hii
        exact ⟨v, by rw [List.getElem?_append_left (by omega)]; exact v1, (v2.set P2g _).shrink P2s⟩
      · have hii : i' = i := by omega
        subst hii
        refine ⟨.ref pr, by rw [List.getElem?_append_right (by omega), hrl]; simp, pr, ys, rfl, by omega, set_ne hys (by omega), hyl, fun s hs => ?_⟩
        obtain ⟨x, x1, x2⟩ := hyy s hs
        exact ⟨x, x1, (x2.set P2g _).shrink P2s⟩
  · intro lo' h' hI_
    refine ex1 hI_ fun rows hJ_ => and9 hJ_ fun g3 g4 g5 g7 g8 E hg hrl hrows => ?_
    clear hJ_ hI_
    refine ev_lawD (d := d) (w := w) (pl := pl) (pg := pg) (t := t) hw (Nat.le_trans (by omega) E.len) (hb.ext E) (g3.trans f3) (g5.trans f5) g7 g8 ⟨rows, hg, hrl, fun i hi => ?_⟩ (E _ _ hl) ht K
    obtain ⟨v, v1, v2⟩ := hrows i hi
    exact ⟨v, v1, v2.shrink P1sub⟩
end Mine

set_option linter.unusedVariables false
set_option linter.unusedSimpArgs false
set_option autoImplicit false
set_option maxRecDepth 8000
namespace Mine
open PySem

theorem ix_lit {a k : Nat} {y : Int} {xs : List V} {v : V} {h : Hp} {KK : V → Prop} (e : h[a]? = some (.L xs)) (hv : xs[k]? = some v) (hy : y = (k : Int)) (K : KK v) : ixP (.ref a) (.int y) h KK := by
  subst hy
  have := (List.getElem?_eq_some_iff.mp hv).1
  simp only [iX, ixO_L, ixO_T, getP_some, e, getL_L, getT_T, nextP_next, nextP_ret, endP_ret, endP_next, cond_true, cond_false, listP_r, tupP_r, intP_i, boolP_b, fnP_f]
  refine ⟨⟨by omega, by omega⟩, ?_⟩
  rw [if_neg (by omega), Int.toNat_natCast, hv]
  exact K
theorem Base.set {h : Hp} (x : Base h) {a : Nat} (ha : ro ≤ a) (o : Ob) : Base (h.set a o) := by
  have h5 : 5 ≤ a := ha
  exact ⟨set_ne x.a1 (by omega), set_ne x.a2 (by omega), set_ne x.a3 (by omega), set_ne x.a4 (by omega)⟩

noncomputable def lawB : List S := p_law.drop 2
theorem lawB_eq : lawB =
  .forR 2 (.i 1) (.i 5) (.i 1) [.app (.x 5) (.bin .sub (.ix (.x 4) (.bin .sub (.x 2) (.i 1))) (.sum (.cmpF (.i 1) (.x 2) 101 (.cmp .eq (.bin .mod (.x 2) (.x 101)) (.i 0)) (.ix (.x 5) (.bin .sub (.x 101) (.i 1))))))] :: lawC := rfl

theorem ev_lawB {d w pt pl : Nat} {t : Nat → Int} {lo : Lo} {h : Hp} {Q : KR} (hw : WW w) (h5 : ro ≤ pl) (hb : Base h) (f3 : lo 3 = some (.int (w : Int))) (f4 : lo 4 = some (.ref pt)) (f5 : lo 5 = some (.ref pl)) (hne : pt ≠ pl)
    (hpt : h[pt]? = some (.L [.int (t 0), .int (t 1), .int (t 2), .int (t 3)])) (hl : h[pl]? = some (.L [])) (ht : ∀ k, (t k).natAbs ≤ 9)
    (K : ∀ lo' h', Q (.ret (.bool true)) lo' h') : wpSs (callD prg (d + 9)) lawB lo h Q := by
  simp (config := { decide := true }) only [lawB_eq, qSs0, qSs1, nextP_next, nextP_ret, qS0, qS1, qS2, qS3, qS4, qS5, qS6, qS7, qS8, qS9, qS10, qS11, qS12, tupP_r, getT_T, getP_some, cond_true, cond_false, qE0, qE1, qE2, qE3, qE4, qE5, qE6, qE7, qE8, qE9, qE10, qE11, qE12, qE13, qE14, qE15, qE16, qE17, qE18, qE19, qE20, qE21, qE22, qE23, qE24, qE25, qE26, intP_i, getL_L, endP_ret, endP_next, listP_r, boolP_b, fnP_f]
  refine ⟨trivial, ?_⟩
  have b1 : (1000 : Nat) < big := by decide
  refine for_up (fun k lo' h' => lo' 3 = lo 3 ∧ lo' 4 = lo 4 ∧ lo' 5 = lo 5 ∧ Base h' ∧ h'[pt]? = some (.L [.int (t 0), .int (t 1), .int (t 2), .int (t 3)]) ∧ h'[pl]? = some (.L ([V.int (gOf t 0), .int (gOf t 1), .int (gOf t 2), .int (gOf t 3)].take k))) 4 (by decide)
    ⟨rfl, rfl, rfl, hb, hpt, hl⟩ ?_ ?_
  · intro k lo' h' K' hk hI_ nx rr
    refine and6 hI_ fun g3 g4 g5 hb' hpt' hl' => ?_
    clear hI_
    have hlt := lt_of_get hl'
    have hlt2 := lt_of_get hpt'
    -- the end of a turn
    have fin : ∀ (z : Int) (lo2 : Lo) (h2 : Hp), Ext h' h2 → z = gOf t k → (lo2 3 = lo' 3 ∧ lo2 4 = lo' 4 ∧ lo2 5 = lo' 5) → appP (.ref pl) (.int z) h2 fun h => K' .next lo2 h := by
      rintro z lo2 h2 E rfl ⟨e3, e4, e5⟩
      simp only [aP, getL_L, E _ _ hl', getP_some, getT_T, nextP_next, nextP_ret, endP_ret, endP_next, cond_true, cond_false, listP_r, tupP_r, intP_i, boolP_b, fnP_f]
      refine ⟨⟨h5, ?_⟩, ?_⟩
      · rw [List.length_take]; omega
      · refine nx _ _ ⟨e3.trans g3, e4.trans g4, e5.trans g5, (hb'.ext E).set h5 _, set_ne (E _ _ hpt') (by omega), ?_⟩
        rw [set_self (E _ _ hl')]
        have h4 : k = 0 ∨ k = 1 ∨ k = 2 ∨ k = 3 := by omega
        rcases h4 with rfl | rfl | rfl | rfl <;> rfl
    have h4 : k = 0 ∨ k = 1 ∨ k = 2 ∨ k = 3 := by omega
    simp (config := { decide := true }) only [qSs0, qSs1, nextP_next, nextP_ret, qS0, qS1, qS2, qS3, qS4, qS5, qS6, qS7, qS8, qS9, qS10, qS11, qS12, tupP_r, getT_T, getP_some, cond_true, cond_false, qE0, qE1, qE2, qE3, qE4, qE5, qE6, qE7, qE8, qE9, qE10, qE11, qE12, qE13, qE14, qE15, qE16, qE17, qE18, qE19, qE20, qE21, qE22, qE23, qE24, qE25, qE26, upd, Nat.reduceBEq, if_true, if_false, g4, g5, f4, f5, nP, listP_r, getL_L, hl', bA, bC, bS, bM, bR, rep1_one, bD, bO, bL, bH, bN, bU, bP, endP_ret, endP_next, intP_i, boolP_b, fnP_f]
    refine ⟨h5, ?_⟩
    rcases h4 with rfl | rfl | rfl | rfl
    · refine ix_lit (k := 0) hpt' rfl (by decide) ?_
      have er : rangeL 1 1 (rangeN 1 ((1 : Int) + ((0 : Nat) : Int)) 1) = [] := by decide
      simp (config := { decide := true }) only [intP_i, er, compP, List.map, bA, bC, bS, bM, bR, rep1_one, bD, bO, bL, bH, bN, bU, bP, getL_L, true_and, push_last, sumP, listP_r, Int.sub_zero, getP_some, getT_T, nextP_next, nextP_ret, endP_ret, endP_next, cond_true, cond_false, tupP_r, boolP_b, fnP_f]
      exact fin _ _ _ (Ext.push _ _) rfl ⟨rfl, rfl, rfl⟩
    · refine ix_lit (k := 1) hpt' rfl (by decide) ?_
      have er : rangeL 1 1 (rangeN 1 ((1 : Int) + ((1 : Nat) : Int)) 1) = [1] := by decide
      simp (config := { decide := true }) only [intP_i, er, compP, List.map, bA, bC, bS, bM, bR, rep1_one, bD, bO, bL, bH, bN, bU, bP, getL_L, cQ, cN, cL, cM, cG, cH, cX, cY, cR, boolP_b, if_true, cond_true, if_false, cond_false, true_and, ne_eq, getP_some, getT_T, nextP_next, nextP_ret, endP_ret, endP_next, listP_r, tupP_r, fnP_f]
      refine ix_lit (k := 0) hl' rfl (by decide) ?_
      simp (config := { decide := true }) only [List.nil_append, listP_r, getL_L, push_last, sumP, bA, bC, bS, bM, bR, rep1_one, bD, bO, bL, bH, bN, bU, bP, getP_some, getT_T, nextP_next, nextP_ret, endP_ret, endP_next, cond_true, cond_false, tupP_r, intP_i, boolP_b, fnP_f]
      refine fin _ _ _ (Ext.push _ _) ?_ ⟨rfl, rfl, rfl⟩
      simp only [gOf]; omega
    · refine ix_lit (k := 2) hpt' rfl (by decide) ?_
      have er : rangeL 1 1 (rangeN 1 ((1 : Int) + ((2 : Nat) : Int)) 1) = [1, 2] := by decide
      simp (config := { decide := true }) only [intP_i, er, compP, List.map, bA, bC, bS, bM, bR, rep1_one, bD, bO, bL, bH, bN, bU, bP, getL_L, cQ, cN, cL, cM, cG, cH, cX, cY, cR, boolP_b, if_true, cond_true, if_false, cond_false, true_and, ne_eq, getP_some, getT_T, nextP_next, nextP_ret, endP_ret, endP_next, listP_r, tupP_r, fnP_f]
      refine ix_lit (k := 0) hl' rfl (by decide) ?_
      simp (config := { decide := true }) only [List.nil_append, List.append_nil, listP_r, getL_L, push_last, sumP, bA, bC, bS, bM, bR, rep1_one, bD, bO, bL, bH, bN, bU, bP, getP_some, getT_T, nextP_next, nextP_ret, endP_ret, endP_next, cond_true, cond_false, tupP_r, intP_i, boolP_b, fnP_f]
      refine fin _ _ _ (Ext.push _ _) ?_ ⟨rfl, rfl, rfl⟩
      simp only [gOf]; omega
    · refine ix_lit (k := 3) hpt' rfl (by decide) ?_
      have er : rangeL 1 1 (rangeN 1 ((1 : Int) + ((3 : Nat) : Int)) 1) = [1, 2, 3] := by decide
      simp (config := { decide := true }) only [intP_i, er, compP, List.map, bA, bC, bS, bM, bR, rep1_one, bD, bO, bL, bH, bN, bU, bP, getL_L, cQ, cN, cL, cM, cG, cH, cX, cY, cR, boolP_b, if_true, cond_true, if_false, cond_false, true_and, ne_eq, getP_some, getT_T, nextP_next, nextP_ret, endP_ret, endP_next, listP_r, tupP_r, fnP_f]
      refine ix_lit (k := 0) hl' rfl (by decide) ?_
      refine ix_lit (k := 1) hl' rfl (by decide) ?_
      simp (config := { decide := true }) only [List.nil_append, List.append_nil, List.cons_append, listP_r, getL_L, push_last, sumP, bA, bC, bS, bM, bR, rep1_one, bD, bO, bL, bH, bN, bU, bP, getP_some, getT_T, nextP_next, nextP_ret, endP_ret, endP_next, cond_true, cond_false, tupP_r, intP_i, boolP_b, fnP_f]
      refine fin _ _ _ (Ext.push _ _) ?_ ⟨rfl, rfl, rfl⟩
      simp only [gOf]; omega
  · intro lo' h' hI_
    refine and6 hI_ fun g3 g4 g5 hb' hpt' hl' => ?_
    clear hI_
    have h5l := lt_of_get hl'
    rw [nextP_next]
    exact ev_lawC (d := d) hw (by omega) hb' (g3.trans f3) (g4.trans f4) (g5.trans f5) hpt' hl' ht K

theorem law_eq : p_law = .asg (.nm 1) (.lst [(.i 0), (.cmpL (.slL (.x 0) (.i 6)) 101 (.abs (.toI (.x 101))))]) ::
   .asgT [(.nm 3), (.nm 4), (.nm 5)] [(.bin .add (.i 4) (.call (.g (.fn 261)) [(.x 1), (.i 5)])), (.cmpR (.i 0) (.i 4) 101 (.bin .sub (.call (.g (.fn 261)) [(.x 1), (.i 19)]) (.i 9))), (.lst [])] :: lawB := rfl

theorem law_holds (xs : List Int) (hx : xs.length ≤ 63) (Q : KV) (hQ : ∀ h, Q (.bool true) h) : callD prg 20 287 [.ref 0] [.L (xs.map .int), .L [], .T [.bool false, .ref 1], .L [.int 1], .T [.bool false, .ref 3]] Q := by
  have p1 : prg 287 = some (1, p_law) := rfl
  generalize hh0 : ([.L (xs.map .int), .L [], .T [.bool false, .ref 1], .L [.int 1], .T [.bool false, .ref 3]] : Hp) = h0
  have hb0 : Base h0 := by rw [← hh0]; exact ⟨rfl, rfl, rfl, rfl⟩
  have hl0 : h0.length = 5 := by rw [← hh0]; rfl
  have hs0 : h0[0]? = some (.L (xs.map .int)) := by rw [← hh0]; rfl
  rw [callD_succ, p1]
  simp (config := { decide := true }) only [List.length_cons, List.length_nil, true_and, law_eq, qSs0, qSs1, nextP_next, nextP_ret, qS0, qS1, qS2, qS3, qS4, qS5, qS6, qS7, qS8, qS9, qS10, qS11, qS12, tupP_r, getT_T, getP_some, cond_true, cond_false, qE0, qE1, qE2, qE3, qE4, qE5, qE6, qE7, qE8, qE9, qE10, qE11, qE12, qE13, qE14, qE15, qE16, qE17, qE18, qE19, qE20, qE21, qE22, qE23, qE24, qE25, qE26, qEs0, qEs1, qT0, qT1, List.getElem?_cons_zero, listP_r, getL_L, hs0, intP_i, push_last, endP_ret, endP_next, boolP_b, fnP_f]
  refine compP_inv (fun k acc h' => h' = h0 ++ [.L (List.take (Int.toNat 6) (xs.map .int))] ∧ ∃ ys : List Int, acc = ys.map .int) _ [] ?_ ?_ ?_ _ ⟨rfl, [], rfl⟩
  · rintro k v acc h' K' hv ⟨rfl, ys, rfl⟩ nx
    have hvi : ∃ x : Int, v = .int x := by
      have := List.mem_of_mem_take (List.mem_of_getElem? hv)
      obtain ⟨x, _, e⟩ := List.mem_map.mp this
      exact ⟨x, e.symm⟩
    obtain ⟨x, rfl⟩ := hvi
    simp (config := { decide := true }) only [upd, Nat.reduceBEq, cond_true, cond_false, if_true, intP_i, getP_some, getL_L, getT_T, nextP_next, nextP_ret, endP_ret, endP_next, listP_r, tupP_r, boolP_b, fnP_f]
    exact nx _ _ ⟨rfl, ys ++ [(x.natAbs : Int)], by simp⟩
  · rintro k acc h' ⟨rfl, _⟩
    exact push_last _ _
  · rintro acc h' ⟨rfl, ys, rfl⟩
    have E1 : Ext h0 (h0 ++ [Ob.L (List.take (Int.toNat 6) (xs.map .int))] ++ [Ob.L (ys.map .int)]) := (Ext.push _ _).push' _
    have q6 : (h0 ++ [Ob.L (List.take (Int.toNat 6) (xs.map .int))] ++ [Ob.L (ys.map .int)])[6]? = some (.L (ys.map .int)) := by
      have := push_last (h0 ++ [Ob.L (List.take (Int.toNat 6) (xs.map .int))]) (Ob.L (ys.map .int))
      rw [show (h0 ++ [Ob.L (List.take (Int.toNat 6) (xs.map .int))]).length = 6 by simp [hl0]] at this
      exact this
    have l6 : (h0 ++ [Ob.L (List.take (Int.toNat 6) (xs.map .int))]).length = 6 := by simp [hl0]
    have l7 : (h0 ++ [Ob.L (List.take (Int.toNat 6) (xs.map .int))] ++ [Ob.L (ys.map .int)]).length = 7 := by simp [hl0]
    rw [l6, l7]
    generalize h0 ++ [Ob.L (List.take (Int.toNat 6) (xs.map .int))] ++ [Ob.L (ys.map .int)] = h1 at *
    have hb2 : Base (h1 ++ [Ob.L [V.int 0, V.ref 6]]) := (hb0.ext E1).ext (Ext.push _ _)
    have s7 : (h1 ++ [Ob.L [V.int 0, V.ref 6]])[7]? = some (.L [.int ((0 : Nat) : Int), .ref 6]) := by
      have := push_last h1 (Ob.L [V.int 0, V.ref 6])
      rw [l7] at this; exact this
    have q6' : (h1 ++ [Ob.L [V.int 0, V.ref 6]])[6]? = some (.L (ys.map .int)) := push_get q6
    generalize h1 ++ [Ob.L [V.int 0, V.ref 6]] = h2 at *
    simp (config := { decide := true }) only [qSs0, qSs1, nextP_next, nextP_ret, qS0, qS1, qS2, qS3, qS4, qS5, qS6, qS7, qS8, qS9, qS10, qS11, qS12, tupP_r, getT_T, getP_some, cond_true, cond_false, qE0, qE1, qE2, qE3, qE4, qE5, qE6, qE7, qE8, qE9, qE10, qE11, qE12, qE13, qE14, qE15, qE16, qE17, qE18, qE19, qE20, qE21, qE22, qE23, qE24, qE25, qE26, qEs0, qEs1, qT0, qT1, upd, Nat.reduceBEq, if_true, if_false, fnP_f, getL_L, endP_ret, endP_next, listP_r, intP_i, boolP_b]
    refine ev_next (d := 18) (m := 5) (by decide) s7 q6' (by decide) (by decide) (by decide) fun r hr => ?_
    simp (config := { decide := true }) only [bA, bC, bS, bM, bR, rep1_one, bD, bO, bL, bH, bN, bU, bP, getL_L, qEs0, qEs1, qE0, qE1, qE2, qE3, qE4, qE5, qE6, qE7, qE8, qE9, qE10, qE11, qE12, qE13, qE14, qE15, qE16, qE17, qE18, qE19, qE20, qE21, qE22, qE23, qE24, qE25, qE26, getP_some, intP_i, getT_T, nextP_next, nextP_ret, endP_ret, endP_next, cond_true, cond_false, listP_r, tupP_r, boolP_b, fnP_f]
    have er : rangeN 0 4 1 = 4 := by decide
    rw [er]
    refine compP_inv (fun k acc h' => h'[7]? = some (.L [.int ((k + 1 : Nat) : Int), .ref 6]) ∧ h'[6]? = some (.L (ys.map .int)) ∧ Base h' ∧ ∃ zs : List Int, acc = zs.map .int ∧ zs.length = k ∧ ∀ z ∈ zs, z.natAbs ≤ 9) _ [] ?_ (fun _ _ _ _ => trivial) ?_ _ ⟨set_self s7, set_ne q6' (by decide), hb2.set (by decide) _, [], rfl, rfl, fun z hz => by simp at hz⟩
    · rintro k v acc h' K' hv ⟨i7, i6, ib, zs, rfl, hzl, hzs⟩ nx
      obtain ⟨hk, _⟩ := range_item hv
      refine ev_next (d := 18) (m := 19) (by decide) i7 i6 (by decide) (by omega) (by decide) fun r' hr' => ?_
      simp only [bA, bC, bS, bM, bR, rep1_one, bD, bO, bL, bH, bN, bU, bP, getL_L, getP_some, getT_T, nextP_next, nextP_ret, endP_ret, endP_next, cond_true, cond_false, listP_r, tupP_r, intP_i, boolP_b, fnP_f]
      refine nx _ _ ⟨set_self i7, set_ne i6 (by decide), ib.set (by decide) _, zs ++ [(r' : Int) - 9], by simp, by simp [hzl], fun z hz => ?_⟩
      rcases List.mem_append.mp hz with h | h
      · exact hzs z h
      · simp at h; subst h; omega
    · rintro acc h' ⟨i7, i6, ib, zs, rfl, hzl, hzs⟩
      rw [List.length_map, rangeL_length] at hzl
      obtain ⟨a, b, c, e, rfl⟩ : ∃ a b c e, zs = [a, b, c, e] := by
        match zs, hzl with
        | [a, b, c, e], _ => exact ⟨a, b, c, e, rfl⟩
      have l7' := lt_of_get i7
      have ew : (4 : Int) + (r : Int) = ((4 + r : Nat) : Int) := by omega
      simp (config := { decide := true }) only [qTs0, qTs1, qT0, qT1, ew]
      have hlen1 : (h' ++ [Ob.L (List.map V.int [a, b, c, e])]).length = h'.length + 1 := by simp
      refine ev_lawB (d := 10) (w := 4 + r) (pt := h'.length) (pl := h'.length + 1) (t := fun k => match k with | 0 => a | 1 => b | 2 => c | 3 => e | _ => 0) ⟨by omega, by omega⟩ (show 5 ≤ _ by omega) ((ib.ext (Ext.push _ _)).ext (Ext.push _ _)) rfl rfl (by simp [upd, hlen1]) (by omega) (push_get (push_last _ _)) ?_ ?_ fun lo' h'' => hQ _
      · have := push_last (h' ++ [Ob.L (List.map V.int [a, b, c, e])]) (Ob.L [])
        rw [hlen1] at this; exact this
      · intro k
        have ha := hzs a (by simp)
        have hb := hzs b (by simp)
        have hc := hzs c (by simp)
        have he := hzs e (by simp)
        split <;> omega
end Mine

set_option linter.unusedVariables false
set_option autoImplicit false
set_option maxRecDepth 100000
open Mine
open PySem PySem.W PySem.Calls PyProof.Rows
set_option maxHeartbeats 8000000 in
theorem PySem.Challenge.cw_xm0442_01_holds : PySem.Challenge.rw_xm0442_01.Holds := by
  w_on
  o_law
  o_head (kHook K0 [3, 164, 165, 166, 167] (fun _ => rfl))
  case hw => w_witness2
  intro w s₀ s₁ mg mb G Y fa o pm cd doc dV kV ho hd' hcd hD hmg hg args vals as hpre hlay hrd hwl hlo
  have KX := kIn_of Y
  have efa : fa = 287 := by
    have h1 := mg_of KX (Ground.T G).g (n := "law") (v := .ref 287) rfl
    have h2 : mg (Str.ofString "law") = some (Value.ref fa) := hmg
    have h3 : some (Value.ref 287) = some (Value.ref fa) := h1.symm.trans h2
    cases h3; rfl
  subst efa
  have T := Ground.T G
  clear ho hd' hcd hD hmg G Y
  wrow_args hpre hlay hrd hwl hlo
  rename_i xs _ _ _ _ _ _ _ sa ws _ hL _ _ _ hI _ hc _
  refine enter_call ?_
  have hxs : xs.length ≤ 63 := by
    have h63 : ¬ ((63 : Int) < (xs.length : Int)) := hc
    omega
  have St := stat_of (sa := sa) KX T (fun d hd => hd)
  have SCx := sound_code (prog := PySem.Challenge.rw_xm0442_01.row.prog) (w := w) St (prg_ok KX T (fun d hd => hd)) 20
  refine codeAny_mono (SCx callerA 287 [.ref 0] [.ref sa] [sa, 164, 165, 166, 167] (heap0 xs) s₁ (fun v _ => v = .bool true) ⟨rfl, by decide, by decide⟩ (rep_of KX hL hI hxs) (.cons ⟨sa, rfl, rfl⟩ .nil) (law_holds xs hxs _ fun _ => rfl)) ?_
  intro r s' h
  refine GoodW.toG ?_
  match r, h with
  | .ok (.ret v), h =>
    obtain ⟨φ', av, h', st, R', rv, rfl⟩ := h
    have rv : v = .bool true := rv
    subst rv
    obtain ⟨hh, tk, e⟩ := st.same
    refine ⟨.inl ⟨.bool true, .bool true, [], rfl, ?_, .bool true, ?_, ?_⟩, fun b o e => st.frame b o (by simp [ro]) (by simp) e, by rw [e], by rw [e]; exact hg⟩
    · exact fun cls => rfl
    · wrow_post
    · exact unshared_nil
  | .error e, h => exact h.elim

