import PyProof.Rows.All
import Wide.All
import OpenK.AllK
import Wide.FinOn
import KE.KDictAnyGet
import KE.KDictObj
import KE.KExtendNil
import KE.KTup
import KE.KTops
import KE.KxMul
import PyProof.Rows.ListUnroll
import Lean
import PySem.Challenge.RW_rg0021_01
open PySem PySem.W PySem.Calls PyProof.Rows
set_option Elab.async false
set_option maxRecDepth 100000
set_option maxHeartbeats 0
set_option linter.unusedVariables false
set_option genSizeOf false
namespace Mine
/-- abstract values -/
inductive AV where
  | none
  | bool (b : Bool)
  | int (i : Int)
  | str (x : Str)
  | ref (i : Nat)
  | top (v : Value)
/-- a dict's key -/
inductive AK where
  | str (x : Str)
  | int (i : Int)
set_option genInjectivity false
/-- abstract objects; a dict: whether its keys are ints, whether all that is not told is absent, what is known of it, a bound of its size; a list: how it begins, whether that is all, a bound -/
inductive AO where
  | inst (C : Addr) (d : Nat)
  | dict (ik wh : Bool) (kn : List (AK × Option AV)) (n : Nat)
  | attrs (kn : List (Str × AV)) (n : Nat)
  | list (xs : List AV) (whole : Bool) (n : Nat)
  | tup (xs : List AV)
  | cell (v : Option AV)
  | vial (ds : List (Int × Int))
structure St where
  locs : List (Str × AV)
  cells : List (Str × Nat)
  comp : Bool
  heap : List (Nat × AO)
  nxt : Nat
inductive Fl where
  | next
  | ret (v : AV)
noncomputable def sEqB (a b : Str) : Bool := decide (a = b)
noncomputable def AK.same : AK → AK → Bool
  | .str a, .str b => sEqB a b
  | .int a, .int b => a == b
  | _, _ => false
noncomputable def keyOf : AV → Option AK
  | .str x => some (.str x)
  | .int i => some (.int i)
  | _ => Option.none
noncomputable def getL : Str → List (Str × AV) → Option AV
  | _, [] => Option.none
  | x, (y, v) :: r => bif sEqB x y then some v else getL x r
noncomputable def putL : Str → AV → List (Str × AV) → List (Str × AV)
  | x, v, [] => [(x, v)]
  | x, v, (y, u) :: r => bif sEqB x y then (y, v) :: r else (y, u) :: putL x v r
noncomputable def getN : Str → List (Str × Nat) → Option Nat
  | _, [] => Option.none
  | x, (y, v) :: r => bif sEqB x y then some v else getN x r
noncomputable def getK : AK → List (AK × Option AV) → Option (Option AV)
  | _, [] => Option.none
  | k, (j, v) :: r => bif k.same j then some v else getK k r
noncomputable def askK (wh : Bool) (k : AK) (kn : List (AK × Option AV)) : Option (Option AV) := match getK k kn with
  | some r => some r
  | Option.none => bif wh then some Option.none else Option.none
noncomputable def putK : AK → AV → List (AK × Option AV) → List (AK × Option AV)
  | k, v, [] => [(k, some v)]
  | k, v, (j, u) :: r => bif k.same j then (j, some v) :: r else (j, u) :: putK k v r
noncomputable def AK.isInt : AK → Bool
  | .int _ => true
  | .str _ => false
/-- what a dict tells of a key -/
noncomputable def askD : AO → AK → Option (Option AV)
  | .dict ik wh kn n, k => bif Nat.beq n 0 then some Option.none else bif k.isInt == ik then askK wh k kn else Option.none
  | _, _ => Option.none
/-- a key is put -/
noncomputable def putD : AO → AK → AV → Option AO
  | .dict ik wh kn n, k, v => bif Nat.beq n 0 then some (.dict k.isInt true [(k, some v)] 1) else bif Nat.blt n 900 && (k.isInt == ik) then some (.dict ik wh (putK k v kn) (n + 1)) else Option.none
  | _, _, _ => Option.none
noncomputable def getH : Nat → List (Nat × AO) → Option AO
  | _, [] => Option.none
  | i, (j, o) :: r => bif Nat.beq i j then some o else getH i r
noncomputable def putH : Nat → AO → List (Nat × AO) → List (Nat × AO)
  | _, _, [] => []
  | i, o, (j, p) :: r => bif Nat.beq i j then (j, o) :: r else (j, p) :: putH i o r
noncomputable def St.obj (σ : St) (i : Nat) : Option AO := getH i σ.heap
noncomputable def St.set (σ : St) (i : Nat) (o : AO) : St := { σ with heap := putH i o σ.heap }
noncomputable def St.new (σ : St) (o : AO) : Nat × St := (σ.nxt, { σ with heap := (σ.nxt, o) :: σ.heap, nxt := σ.nxt + 1 })
/-- what the text's top holds -/
structure Fn where
  params : List Str
  body : List Stmt
  scope : Scope
  dflt : List AV
structure Tp where
  glob : Str → Option Value
  fn : Addr → Option Fn
  cls : Addr → Option Addr
  attrs : Addr → List Str
  tups : Addr → Option (List Str)
  drop : Addr
inductive Task where
  | ex (e : PySem.Expr)
  | tst (e : PySem.Expr)
  | st (s : Stmt)
  | call (f : AV) (args : List AV)
  | wh (t : PySem.Expr) (b : List Stmt)
  | fort (x : Str) (b : List Stmt) (l i : Nat)
  | compt (x : Str) (ifs : List PySem.Expr) (l i acc : Nat)
inductive Out where
  | v (a : AV)
  | b (b : Bool)
  | fl (f : Fl)
abbrev Ih := Task → Scope → St → Option (Out × St)
noncomputable def exV (ih : Ih) (e : PySem.Expr) (sc : Scope) (σ : St) : Option (AV × St) := match ih (.ex e) sc σ with
  | some (.v a, σ') => some (a, σ')
  | _ => Option.none
noncomputable def exB (ih : Ih) (e : PySem.Expr) (sc : Scope) (σ : St) : Option (Bool × St) := match ih (.tst e) sc σ with
  | some (.b a, σ') => some (a, σ')
  | _ => Option.none
noncomputable def exF (ih : Ih) (s : Stmt) (sc : Scope) (σ : St) : Option (Fl × St) := match ih (.st s) sc σ with
  | some (.fl a, σ') => some (a, σ')
  | _ => Option.none
noncomputable def exC (ih : Ih) (f : AV) (as : List AV) (sc : Scope) (σ : St) : Option (AV × St) := match ih (.call f as) sc σ with
  | some (.v a, σ') => some (a, σ')
  | _ => Option.none
noncomputable def exs (ih : Ih) (sc : Scope) : List PySem.Expr → St → Option (List AV × St)
  | [], σ => some ([], σ)
  | e :: r, σ => match exV ih e sc σ with
    | some (a, σ₁) => match exs ih sc r σ₁ with
      | some (as, σ₂) => some (a :: as, σ₂)
      | Option.none => Option.none
    | Option.none => Option.none
noncomputable def sts (ih : Ih) (sc : Scope) : List Stmt → St → Option (Fl × St)
  | [], σ => some (.next, σ)
  | s :: r, σ => match exF ih s sc σ with
    | some (.next, σ₁) => sts ih sc r σ₁
    | some (.ret v, σ₁) => some (.ret v, σ₁)
    | Option.none => Option.none
/-- truth of a value -/
noncomputable def truth (σ : St) : AV → Option Bool
  | .none => some false
  | .bool b => some b
  | _ => Option.none
noncomputable def getAttr (tp : Tp) (σ : St) (o : AV) (a : Str) : Option AV := match o with
  | .ref i => match σ.obj i with
    | some (.inst C d) => bif (tp.attrs C).any (sEqB a) then (match σ.obj d with
      | some (.attrs kn _) => match getL a kn with
        | some (.top _) => Option.none
        | r => r
      | _ => Option.none) else Option.none
    | _ => Option.none
  | _ => Option.none
noncomputable def setAttr (tp : Tp) (σ : St) (o : AV) (a : Str) (v : AV) : Option St := match o with
  | .ref i => match σ.obj i with
    | some (.inst C d) => bif (tp.attrs C).any (sEqB a) then (match σ.obj d with
      | some (.attrs kn n) => bif Nat.blt n 900 then some (σ.set d (.attrs (putL a v kn) (n + 1))) else Option.none
      | _ => Option.none) else Option.none
    | _ => Option.none
  | _ => Option.none
noncomputable def kindOf (sc : Scope) (x : Str) : Option NameKind := sc.names.lookup x
noncomputable def load (tp : Tp) (sc : Scope) (σ : St) (x : Str) : Option AV := match kindOf sc x with
  | some .local => getL x σ.locs
  | some .cell => match getN x σ.cells with
    | some c => match σ.obj c with
      | some (.cell (some v)) => some v
      | _ => Option.none
    | Option.none => Option.none
  | some .globalImplicit => (tp.glob x).map .top
  | _ => Option.none
noncomputable def store (sc : Scope) (σ : St) (x : Str) (v : AV) : Option St := match kindOf sc x with
  | some .local => some { σ with locs := putL x v σ.locs }
  | some .cell => match getN x σ.cells with
    | some c => match σ.obj c with
      | some (.cell _) => some (σ.set c (.cell (some v)))
      | _ => Option.none
    | Option.none => Option.none
  | _ => Option.none
noncomputable def charAt (x : Str) (i : Int) : Option AV := bif fitsSsize i && (PySem.Txt.charAt x i).isSome then some (.str (PySem.Txt.item x i)) else Option.none
noncomputable def itemAt (tp : Tp) (σ : St) (o i : AV) : Option AV := match o, i with
  | .str x, .int k => charAt x k
  | .ref a, .int k => match σ.obj a with
    | some (.list xs _ _) => bif decide (0 ≤ k) && decide (k < 1000) then xs[k.toNat]? else Option.none
    | some (.tup xs) => bif decide (0 ≤ k) && decide (k < 1000) then xs[k.toNat]? else Option.none
    | some o => match askD o (.int k) with
      | some (some v) => some v
      | _ => Option.none
    | Option.none => Option.none
  | _, _ => Option.none
noncomputable def isNone : AV → Bool
  | .none => true
  | _ => false
noncomputable def toD : AV → Option PyData
  | .none => some .none
  | .int a => some (.int a)
  | .str a => some (.str a)
  | .bool a => some (.bool a)
  | _ => Option.none
noncomputable def toDs : List AV → Option (List PyData)
  | [] => some []
  | a :: r => match toD a with
    | some d => (toDs r).map (d :: ·)
    | Option.none => Option.none
/-- two tuples of small things -/
noncomputable def neT (xs ys : List PyData) : Option Bool := bif SeqAt.shaped (.tuple xs) && SeqAt.shaped (.tuple ys) && SeqAt.noMix (.tuple xs) (.tuple ys) then some (!Spec.same (.tuple xs) (.tuple ys)) else Option.none
noncomputable def cmp (tp : Tp) (σ : St) (op : CmpOp) (a b : AV) : Option Bool := match op with
  | .Is => match a, b with
    | .top _, _ => Option.none
    | a, .none => some (isNone a)
    | _, _ => Option.none
  | .IsNot => match a, b with
    | .top _, _ => Option.none
    | a, .none => some (!isNone a)
    | _, _ => Option.none
  | .Eq => match a, b with
    | .int x, .int y => some (x == y)
    | .str x, .str y => some (x.cps.toList == y.cps.toList)
    | .bool x, .bool y => some (x == y)
    | .none, .str _ => some false
    | _, _ => Option.none
  | .NotEq => match a, b with
    | .int x, .int y => some (x != y)
    | .str x, .str y => some (x.cps.toList != y.cps.toList)
    | .ref i, .ref j => match σ.obj i, σ.obj j with
      | some (.list [] true _), some (.list [] true _) => some false
      | some (.tup xs), some (.tup ys) => match toDs xs, toDs ys with
        | some ds, some es => neT ds es
        | _, _ => Option.none
      | _, _ => Option.none
    | _, _ => Option.none
  | .Gt => match a, b with
    | .int x, .int y => some (decide (x > y))
    | _, _ => Option.none
  | .In => match a, b with
    | .str x, .str y => some (!(Builtin.Str.occurrences y x 0 y.length 1).isEmpty)
    | .str x, .top (.ref t) => match tp.tups t with
      | some l => some (l.any fun y => y.cps.toList == x.cps.toList)
      | Option.none => Option.none
    | _, _ => Option.none
  | .NotIn => match a, b with
    | .str x, .top (.ref t) => match tp.tups t with
      | some l => some (!l.any fun y => y.cps.toList == x.cps.toList)
      | Option.none => Option.none
    | .int k, .ref d => match σ.obj d with
      | some o => match askD o (.int k) with
        | some r => some (!r.isSome)
        | Option.none => Option.none
      | Option.none => Option.none
    | _, _ => Option.none
  | _ => Option.none
noncomputable def bin (σ : St) (op : Operator) (a b : AV) : Option (AV × St) := match op, a, b with
  | .Add, .int x, .int y => some (.int (x + y), σ)
  | .Add, .ref i, .ref j => match σ.obj i, σ.obj j with
    | some (.list xs true n), some (.list ys true m) => bif Nat.blt (n + m) 900 then let (k, σ') := σ.new (.list (xs ++ ys) true (n + m)); some (.ref k, σ') else Option.none
    | _, _ => Option.none
  | _, _, _ => Option.none
noncomputable def inpl (σ : St) (op : Operator) (a b : AV) : Option (AV × St) := match op, a, b with
  | .Add, .int x, .int y => some (.int (x + y), σ)
  | .Add, .ref i, .ref j => match σ.obj i, σ.obj j with
    | some (.list xs true n), some (.list ys true m) => bif Nat.blt (n + m) 900 then (bif Nat.beq i j then Option.none else some (.ref i, σ.set i (.list (xs ++ ys) true (n + m)))) else Option.none
    | _, _ => Option.none
  | _, _, _ => Option.none
/-- a method of a built-in kind -/
inductive Mt where
  | append
  | extend
  | get
  | setdef
  | index
noncomputable def methOf (σ : St) (o : AV) (m : Str) : Option Mt := match o with
  | .str _ => bif sEqB m "index" then some .index else Option.none
  | .ref i => match σ.obj i with
    | some (.list _ _ _) => bif sEqB m "append" then some .append else bif sEqB m "extend" then some .extend else Option.none
    | some (.dict _ _ _ _) => bif sEqB m "get" then some .get else bif sEqB m "setdefault" then some .setdef else Option.none
    | _ => Option.none
  | _ => Option.none
noncomputable def methDo (σ : St) (k : Mt) (o : AV) (args : List AV) : Option (AV × St) := match k with
  | .index => match o, args with
    | .str x, [.str y] => match Builtin.Str.occurrences x y 0 x.length 1 with
      | i :: _ => some (.int (i : Nat), σ)
      | [] => Option.none
    | _, _ => Option.none
  | .append => match o, args with
    | .ref i, [v] => match σ.obj i with
      | some (.list xs wh n) => bif Nat.blt n 900 then some (.none, σ.set i (.list (bif wh then xs ++ [v] else xs) wh (n + 1))) else Option.none
      | _ => Option.none
    | _, _ => Option.none
  | .extend => match o, args with
    | .ref i, [.ref j] => match σ.obj i, σ.obj j with
      | some (.list xs true n), some (.list ys true k) => bif Nat.beq i j then Option.none else bif Nat.blt (n + k) 900 then some (.none, σ.set i (.list (xs ++ ys) true (n + k))) else Option.none
      | _, _ => Option.none
    | _, _ => Option.none
  | .get => match o, args with
    | .ref i, [kv, dv] => match σ.obj i, keyOf kv with
      | some d, some k => match askD d k with
        | some r => some (r.getD dv, σ)
        | Option.none => Option.none
      | _, _ => Option.none
    | _, _ => Option.none
  | .setdef => match o, args with
    | .ref i, [kv, dv] => match σ.obj i, keyOf kv with
      | some d, some k => match askD d k with
        | some (some v) => match d with
          | .dict _ _ _ n => bif Nat.blt n 900 then some (v, σ) else Option.none
          | _ => Option.none
        | some Option.none => (putD d k dv).map fun o => (dv, σ.set i o)
        | Option.none => Option.none
      | _, _ => Option.none
    | _, _ => Option.none
/-- stores into names of a tuple target -/
noncomputable def stores (sc : Scope) : List PySem.Expr → List AV → St → Option St
  | [], vs, σ => match vs with
    | [] => some σ
    | _ => Option.none
  | t :: r, vs, σ => match vs with
    | [] => Option.none
    | v :: vs => match t with
      | .Name x _ => match store sc σ x v with
        | some σ₁ => stores sc r vs σ₁
        | Option.none => Option.none
      | _ => Option.none
noncomputable def zipP : List Str → List AV → Option (List (Str × AV))
  | [], [] => some []
  | x :: r, v :: q => (zipP r q).map ((x, v) :: ·)
  | _, _ => Option.none
noncomputable def boolT (ih : Ih) (sc : Scope) (isAnd : Bool) : List PySem.Expr → St → Option (Bool × St)
  | [], σ => some (isAnd, σ)
  | e :: r, σ => match exB ih e sc σ with
    | some (t, σ₁) => bif (t == isAnd) then boolT ih sc isAnd r σ₁ else some (t, σ₁)
    | Option.none => Option.none
/-- an expression that stands plainly at the head of an attribute -/
noncomputable def callee (a : PySem.Expr) : Bool := match a with
  | .Name _ _ | .Attribute _ _ _ | .Subscript _ _ _ | .Constant _ _ _ => true
  | .Call (.Attribute _ _ _) _ _ _ => true
  | .Call _ (_ :: _) _ _ => true
  | _ => false
noncomputable def plainIdx (a : PySem.Expr) : Bool := match a with
  | .Name _ _ | .Attribute _ _ _ | .Constant _ _ _ | .UnaryOp _ _ _ | .Call _ _ _ _ => true
  | _ => false
noncomputable def plainTest (a : PySem.Expr) : Bool := match a with
  | .Name _ _ | .Attribute _ _ _ | .Subscript _ _ _ | .Constant _ _ _ | .Call _ _ _ _ => true
  | _ => false
noncomputable def starless (l : List PySem.Expr) : Bool := l.all fun | .Starred _ _ => false | _ => true
noncomputable def padArgs (n : Nat) (as ds : List AV) : Option (List AV) := bif Nat.beq (as.length + ds.length) n then some (as ++ ds) else Option.none
/-- a frame's names: those that are local, and the cells -/
noncomputable def bindLoc (sc : Scope) : List (Str × AV) → List (Str × AV)
  | [] => []
  | (x, v) :: r => match kindOf sc x with
    | some .local => (x, v) :: bindLoc sc r
    | _ => bindLoc sc r
noncomputable def bindCells (bs : List (Str × AV)) : List (Str × NameKind) → List (Str × Nat) → St → List (Str × Nat) × St
  | [], cs, σ => (cs, σ)
  | (x, k) :: r, cs, σ => if (k == .cell) = true then bindCells bs r ((x, σ.nxt) :: cs) (σ.new (.cell (getL x bs))).2 else bindCells bs r cs σ
noncomputable def frame (ih : Ih) (f : Fn) (as : List AV) (σ : St) : Option (AV × St) := match padArgs f.params.length as f.dflt with
  | Option.none => Option.none
  | some as => match zipP f.params as with
    | Option.none => Option.none
    | some bs =>
      match sts ih f.scope f.body { (bindCells bs f.scope.names [] { σ with locs := bindLoc f.scope bs, cells := [], comp := false }).2 with cells := (bindCells bs f.scope.names [] { σ with locs := bindLoc f.scope bs, cells := [], comp := false }).1 } with
      | some (fl, σ₂) => some (match fl with | .next => .none | .ret v => v, { σ₂ with locs := σ.locs, cells := σ.cells, comp := σ.comp })
      | Option.none => Option.none
noncomputable def callA (tp : Tp) (ih : Ih) (f : AV) (as : List AV) (σ : St) : Option (AV × St) := match f with
  | .top (.ref a) => bif Nat.beq a tp.drop then (match as with
      | [.ref i, .int m] => match σ.obj i with
        | some (.vial ((k, r) :: ds)) => bif (k == m) && !(m == 0) then some (.int r, σ.set i (.vial ds)) else Option.none
        | _ => Option.none
      | _ => Option.none)
    else match tp.fn a with
      | some f => frame ih f as σ
      | Option.none => match tp.cls a with
        | some init => match tp.fn init with
          | some f => match frame ih f (.ref (σ.nxt + 1) :: as) ((σ.new (.attrs [] 0)).2.new (.inst a σ.nxt)).2 with
            | some (.none, σ₃) => some (.ref (σ.nxt + 1), σ₃)
            | _ => Option.none
          | Option.none => Option.none
        | Option.none => Option.none
  | .top (.builtin n) => bif n == "len" then (match as with
      | [.ref i] => match σ.obj i with
        | some (.list xs true _) => bif Nat.blt xs.length 900 then some (.int xs.length, σ) else Option.none
        | _ => Option.none
      | _ => Option.none) else Option.none
  | .top (.type n) => bif n == "dict" then (match as with
      | [.ref i] => match σ.obj i with
        | some (.dict ik _ _ n) => bif Nat.beq n 0 then some (.ref σ.nxt, (σ.new (.dict ik true [] 0)).2) else Option.none
        | _ => Option.none
      | _ => Option.none) else Option.none
  | _ => Option.none
noncomputable def compScope (sc c : Scope) : Scope := { c with names := c.names.map fun p => match p with | (n, k) => if (k == .free && sc.kind == .function && sc.names.lookup n == some .cell) then (n, .cell) else (n, k) }
noncomputable def compCells (σ : St) : List (Str × NameKind) → List (Str × Nat) → Option (List (Str × Nat))
  | [], acc => some acc
  | (x, k) :: r, acc => if k == .free then (match getN x σ.cells with
      | some c => compCells σ r ((x, c) :: acc)
      | Option.none => Option.none)
    else compCells σ r acc
noncomputable def isSet (e : PySem.Expr) : Bool := match e with | .Set .. => true | _ => false
/-- the scope of a block -/
noncomputable def goodBlock (cs : Scope) : Bool := (cs.kind == .function) && cs.names.all (fun p => !(p.2 == .cell)) && cs.names.all (fun p => !(p.2 == .local) || (cs.names.lookup p.1 == some .local))
/-- a block that gathers; the list it gathers, and where it stands then -/
noncomputable def compE (ih : Ih) (sc : Scope) (σ : St) (e : PySem.Expr) : Option (AV × St) := match e with
  | .ListComp (.Name y _) [⟨.Name x _, it, ifs, ia⟩] cs _ => bif sEqB x y && goodBlock cs && !isSet it && decide (ia = 0) && !(y == ("__debug__" : Str)) && (cs.names.lookup x == some .local) then (match exV ih it sc σ with
      | some (.ref l, σ₁) => match compCells σ cs.names [] with
        | some cl => match ih (.compt x ifs l 0 σ₁.nxt) (compScope sc cs) { (σ₁.new (.list [] true 0)).2 with locs := [], cells := cl, comp := true } with
          | some (.v a, σ₄) => some (a, { σ₄ with locs := σ₁.locs, cells := σ₁.cells, comp := σ₁.comp })
          | _ => Option.none
        | Option.none => Option.none
      | _ => Option.none) else Option.none
  | _ => Option.none
noncomputable def keepA (tp : Tp) (a : Addr) : Bool := Nat.beq a tp.drop || (tp.fn a).isSome || (tp.cls a).isSome
noncomputable def mayCall (tp : Tp) (f : AV) : Bool := match f with
  | .top (.ref a) => keepA tp a
  | .top (.builtin _) => true
  | .top (.type _) => true
  | _ => false
noncomputable def eva (tp : Tp) (ih : Ih) (sc : Scope) (σ : St) (e : PySem.Expr) : Option (AV × St) := match e with
  | .Constant c _ _ => match c with
    | .none => some (.none, σ)
    | .bool b => some (.bool b, σ)
    | .int i => some (.int i, σ)
    | .str x => some (.str x, σ)
    | _ => Option.none
  | .Name x _ => bif x == ("__debug__" : Str) then Option.none else (load tp sc σ x).map (·, σ)
  | .Attribute v a _ => bif callee v then (match exV ih v sc σ with
      | some (o, σ₁) => (getAttr tp σ₁ o a).map (·, σ₁)
      | Option.none => Option.none) else Option.none
  | .Call (.Name f fp) as [] _ => bif starless as then (match exV ih (.Name f fp) sc σ with
      | some (fv, σ₀) => bif mayCall tp fv then (match exs ih sc as σ₀ with
        | some (vs, σ₁) => exC ih fv vs sc σ₁
        | Option.none => Option.none) else Option.none
      | Option.none => Option.none) else Option.none
  | .Call (.Attribute o m ap) as [] p => bif starless as && callee o && (ap.endLine == p.line) && Nat.blt as.length 29 then (match exV ih o sc σ with
      | some (ov, σ₁) => match methOf σ₁ ov m with
        | some k => match exs ih sc as σ₁ with
          | some (vs, σ₂) => methDo σ₂ k ov vs
          | Option.none => Option.none
        | Option.none => Option.none
      | Option.none => Option.none) else Option.none
  | .Compare l [op] [r] _ => bif behindInMarks op r then Option.none else match exV ih l sc σ with
    | some (a, σ₁) => match exV ih r sc σ₁ with
      | some (b, σ₂) => (cmp tp σ₂ op a b).map fun t => (.bool t, σ₂)
      | Option.none => Option.none
    | Option.none => Option.none
  | .BoolOp .And [x, y] _ => match exV ih x sc σ with
    | some (a, σ₁) => match truth σ₁ a with
      | some t => bif t then exV ih y sc σ₁ else some (a, σ₁)
      | Option.none => Option.none
    | Option.none => Option.none
  | .BoolOp .Or [x, y] _ => match exV ih x sc σ with
    | some (a, σ₁) => match truth σ₁ a with
      | some t => bif t then some (a, σ₁) else exV ih y sc σ₁
      | Option.none => Option.none
    | Option.none => Option.none
  | .UnaryOp .Not x _ => match exV ih x sc σ with
    | some (.bool b, σ₁) => some (.bool (!b), σ₁)
    | _ => Option.none
  | .UnaryOp .USub x _ => match exV ih x sc σ with
    | some (.int i, σ₁) => some (.int (-i), σ₁)
    | _ => Option.none
  | .IfExp t b o _ => match exB ih t sc σ with
    | some (c, σ₁) => bif c then exV ih b sc σ₁ else exV ih o sc σ₁
    | Option.none => Option.none
  | .BinOp l op r _ => match exV ih l sc σ with
    | some (a, σ₁) => match exV ih r sc σ₁ with
      | some (b, σ₂) => bin σ₂ op a b
      | Option.none => Option.none
    | Option.none => Option.none
  | .Subscript v s _ => bif !plainIdx s then Option.none else match exV ih v sc σ with
    | some (o, σ₁) => match exV ih s sc σ₁ with
      | some (i, σ₂) => (itemAt tp σ₂ o i).map (·, σ₂)
      | Option.none => Option.none
    | Option.none => Option.none
  | .Tuple es _ _ => bif starless es then (match exs ih sc es σ with
      | some (vs, σ₁) => bif Nat.blt vs.length 900 then some (.ref σ₁.nxt, (σ₁.new (.tup vs)).2) else Option.none
      | Option.none => Option.none) else Option.none
  | .List es _ => bif starless es then (match exs ih sc es σ with
      | some (vs, σ₁) => bif Nat.blt vs.length 900 then some (.ref σ₁.nxt, (σ₁.new (.list vs true vs.length)).2) else Option.none
      | Option.none => Option.none) else Option.none
  | .Dict [] [] _ => some (.ref σ.nxt, (σ.new (.dict false true [] 0)).2)
  | e@(.ListComp _ _ _ _) => compE ih sc σ e
  | _ => Option.none
noncomputable def tsa (tp : Tp) (ih : Ih) (sc : Scope) (σ : St) (e : PySem.Expr) : Option (Bool × St) := match e with
  | .UnaryOp .Not x _ => (exB ih x sc σ).map fun p => (!p.1, p.2)
  | .BoolOp .And es _ => boolT ih sc true es σ
  | .BoolOp .Or es _ => boolT ih sc false es σ
  | .Compare l [op] [r] _ => bif behindInMarks op r then Option.none else match exV ih l sc σ with
    | some (a, σ₁) => match exV ih r sc σ₁ with
      | some (b, σ₂) => (cmp tp σ₂ op a b).map (·, σ₂)
      | Option.none => Option.none
    | Option.none => Option.none
  | e => bif plainTest e then (match exV ih e sc σ with
    | some (a, σ₁) => (truth σ₁ a).map (·, σ₁)
    | Option.none => Option.none) else Option.none
noncomputable def isStar (e : PySem.Expr) : Bool := match e with | .Starred .. => true | _ => false
noncomputable def swapsB (sc : Scope) (a : Str) (pa : Pos) (b : Str) (pb : Pos) (v1 v2 : PySem.Expr) : Bool :=
  (kindOf sc a == some .local) && (kindOf sc b == some .local) && (pb.line == pa.line) && !(a == b) && !(b == a) && !isStar v1 && !isStar v2 && !(foldedForSure 8 v1 && foldedForSure 8 v2) && !(constantsAlone 8 v1 && constantsAlone 8 v2)
noncomputable def isSD (e : PySem.Expr) : Bool := match e with | .SetComp .. => true | .DictComp .. => true | _ => false
noncomputable def namesOnly : List PySem.Expr → Bool
  | [] => true
  | .Name _ _ :: r => namesOnly r
  | _ => false
noncomputable def sta (tp : Tp) (ih : Ih) (sc : Scope) (σ : St) (s : Stmt) : Option (Fl × St) := match s with
  | .Expr v@(.Call _ _ _ _) _ => match exV ih v sc σ with
    | some (_, σ₁) => some (.next, σ₁)
    | Option.none => Option.none
  | .Assign [.Name x _] v _ => bif isSD v then Option.none else match exV ih v sc σ with
    | some (a, σ₁) => (store sc σ₁ x a).map (.next, ·)
    | Option.none => Option.none
  | .Assign [.Attribute o a _] v _ => match exV ih v sc σ with
    | some (b, σ₁) => match exV ih o sc σ₁ with
      | some (ov, σ₂) => (setAttr tp σ₂ ov a b).map (.next, ·)
      | Option.none => Option.none
    | Option.none => Option.none
  | .Assign [.Subscript o i _] v _ => match exV ih v sc σ with
    | some (b, σ₁) => match exV ih o sc σ₁ with
      | some (.ref d, σ₂) => match exV ih i sc σ₂ with
        | some (iv, σ₃) => match σ₃.obj d, keyOf iv with
          | some o, some k => (putD o k b).map fun o => (.next, σ₃.set d o)
          | _, _ => Option.none
        | Option.none => Option.none
      | _ => Option.none
    | Option.none => Option.none
  | .Assign [.Tuple ts _ _] v _ => match v with
    | .Tuple vs _ _ => match ts, vs with
      | [.Name a pa, .Name b pb], [v1, v2] => bif swapsB sc a pa b pb v1 v2 then (match exV ih v sc σ with
        | some (.ref i, σ₁) => match σ₁.obj i with
          | some (.tup [x, y]) => match store sc σ₁ b y with
            | some σ₂ => (store sc σ₂ a x).map (.next, ·)
            | Option.none => Option.none
          | _ => Option.none
        | _ => Option.none) else Option.none
      | _, _ => Option.none
    | .ListComp _ _ _ _ => Option.none
    | v => match exV ih v sc σ with
      | some (.ref i, σ₁) => match σ₁.obj i with
        | some (.tup vs) => (stores sc ts vs σ₁).map (.next, ·)
        | _ => Option.none
      | _ => Option.none
  | .AugAssign (.Name x _) op v _ => match load tp sc σ x with
    | some a => match exV ih v sc σ with
      | some (b, σ₁) => match inpl σ₁ op a b with
        | some (c, σ₂) => (store sc σ₂ x c).map (.next, ·)
        | Option.none => Option.none
      | Option.none => Option.none
    | Option.none => Option.none
  | .AugAssign (.Attribute o a _) op v _ => match exV ih o sc σ with
    | some (ov, σ₁) => match getAttr tp σ₁ ov a with
      | some old => match exV ih v sc σ₁ with
        | some (b, σ₂) => match inpl σ₂ op old b with
          | some (c, σ₃) => (setAttr tp σ₃ ov a c).map (.next, ·)
          | Option.none => Option.none
        | Option.none => Option.none
      | Option.none => Option.none
    | Option.none => Option.none
  | .If t b o _ => match exB ih t sc σ with
    | some (c, σ₁) => bif c then sts ih sc b σ₁ else sts ih sc o σ₁
    | Option.none => Option.none
  | .While t b [] _ => match ih (.wh t b) sc σ with
    | some (.fl f, σ₁) => some (f, σ₁)
    | _ => Option.none
  | .For (.Name x _) it b [] _ => bif isSet it then Option.none else match exV ih it sc σ with
    | some (.ref l, σ₁) => match ih (.fort x b l 0) sc σ₁ with
      | some (.fl f, σ₂) => some (f, σ₂)
      | _ => Option.none
    | _ => Option.none
  | .Return (some v) _ => (exV ih v sc σ).map fun p => (.ret p.1, p.2)
  | _ => Option.none
noncomputable def ifsT (ih : Ih) (sc : Scope) (ifs : List PySem.Expr) (σ : St) : Option (Bool × St) := match ifs with
  | [] => some (true, σ)
  | [c] => exB ih c sc σ
  | _ => Option.none
noncomputable def step (tp : Tp) (ih : Ih) : Ih := fun t sc σ => match t with
  | .ex e => (eva tp ih sc σ e).map fun p => (.v p.1, p.2)
  | .tst e => (tsa tp ih sc σ e).map fun p => (.b p.1, p.2)
  | .st s => (sta tp ih sc σ s).map fun p => (.fl p.1, p.2)
  | .call f as => (callA tp ih f as σ).map fun p => (.v p.1, p.2)
  | .wh t b => match exB ih t sc σ with
    | some (true, σ₁) => match sts ih sc b σ₁ with
      | some (.next, σ₂) => ih (.wh t b) sc σ₂
      | some (f, σ₂) => some (.fl f, σ₂)
      | Option.none => Option.none
    | some (false, σ₁) => some (.fl .next, σ₁)
    | Option.none => Option.none
  | .fort x b l i => match σ.obj l with
    | some (.list xs wh _) => match xs[i]? with
      | some v => match store sc σ x v with
        | some σ₁ => match sts ih sc b σ₁ with
          | some (.next, σ₂) => ih (.fort x b l (i + 1)) sc σ₂
          | some (f, σ₂) => some (.fl f, σ₂)
          | Option.none => Option.none
        | Option.none => Option.none
      | Option.none => bif wh then some (.fl .next, σ) else Option.none
    | _ => Option.none
  | .compt x ifs l i acc => match σ.obj l with
    | some (.list xs true _) => match xs[i]? with
      | some v => match store sc σ x v with
        | some σ₁ => match ifsT ih sc ifs σ₁ with
          | some (true, σ₂) => match load tp sc σ₂ x, σ₂.obj acc with
            | some u, some (.list ys true n) => bif Nat.blt n 900 then ih (.compt x ifs l (i + 1) acc) sc (σ₂.set acc (.list (ys ++ [u]) true (n + 1))) else Option.none
            | _, _ => Option.none
          | some (false, σ₂) => ih (.compt x ifs l (i + 1) acc) sc σ₂
          | Option.none => Option.none
        | Option.none => Option.none
      | Option.none => some (.v (.ref acc), σ)
    | _ => Option.none
noncomputable def run (tp : Tp) : Nat → Ih
  | 0 => fun _ _ _ => Option.none
  | n + 1 => step tp (run tp n)
end Mine
namespace Mine
/-- the value that an abstract one stands for -/
noncomputable def VRel (ρ : List Addr) : AV → Value → Prop
  | .none, v => v = .none
  | .bool b, v => v = .bool b
  | .int i, v => ∃ t, v = .int i t
  | .str x, v => ∃ t, v = .str x t
  | .ref i, v => ∃ a, ρ[i]? = some a ∧ v = .ref a
  | .top u, v => v = u
noncomputable def OptRel (ρ : List Addr) : Option AV → Option Value → Prop
  | none, x => x = none
  | some v, x => ∃ rv, x = some rv ∧ VRel ρ v rv
noncomputable def LRel (ρ : List Addr) : List AV → List Value → Prop
  | [], [] => True
  | a :: r, v :: q => VRel ρ a v ∧ LRel ρ r q
  | _, _ => False
noncomputable def PRel (ρ : List Addr) : List AV → List Value → Prop
  | [], _ => True
  | a :: r, v :: q => VRel ρ a v ∧ PRel ρ r q
  | _, _ => False
noncomputable def DRel (ρ : List Addr) {prog : Program} {w : World} {K : Type} [DecidableEq K] (knd : KeyKind prog w K) (mk : K → AK) (wh : Bool) (kn : List (AK × Option AV)) (n : Nat) (o : Obj) : Prop :=
  ∃ kvs : List (K × Value), o.IsDictOf knd kvs ∧ kvs.length ≤ n ∧ ∀ k r, askK wh (mk k) kn = some r → OptRel ρ r (valueAt kvs k)
noncomputable def dropOf (cs : List Int) (k : Nat) (m : Int) : Int := match cs[k]? with
  | some c => c.fmod m
  | none => ((match k with | 0 => 1 | 1 => 1 | 2 => 0 | 3 => 1 | 4 => 1 | 5 => 1 | k => (k : Int)) : Int).fmod m
noncomputable def Draws (cs : List Int) : Nat → List (Int × Int) → Prop
  | _, [] => True
  | k, (m, r) :: ds => r = dropOf cs k m ∧ Draws cs (k + 1) ds
noncomputable def intsAre (cs : List Int) (vs : List Value) : Prop := match cs, vs with
  | [], [] => True
  | c :: r, .int i _ :: q => i = c ∧ intsAre r q
  | _, _ => False
noncomputable def VialRel (prog : Program) (w : World) (ρ : List Addr) (led : List (Addr × Obj)) (ds : List (Int × Int)) (o : Obj) : Prop :=
  ∃ la its ep k t cs, o.IsDictOf (PySem.strKind prog w) [(("cells" : Str), .ref la), (("spot" : Str), .int (k : Nat) t)] ∧ (la, W.listOf its ep) ∈ led ∧ la ∉ ρ ∧ its.size ≤ 20 ∧ intsAre cs its.toList ∧ Draws cs k ds ∧ k + ds.length ≤ 100
noncomputable def ORel (prog : Program) (w : World) (ρ : List Addr) (led : List (Addr × Obj)) (a : Addr) : AO → Obj → Prop
  | .inst C d, ob => ∃ dx, ρ[d]? = some dx ∧ ob = instObj C dx
  | .attrs kn n, ob => ∃ es ep, ob = dictOf es ep ∧ es.length ≤ n ∧ es.any (·.refKey) = false ∧ ∀ x v, getL x kn = some v → ∃ rv, W.getL x es = some (some rv) ∧ VRel ρ v rv
  | .dict ik wh kn n, ob => (a == sysModules) = false ∧ match ik with
    | true => DRel ρ (intKind prog w) AK.int wh kn n ob
    | false => DRel ρ (PySem.strKind prog w) AK.str wh kn n ob
  | .list xs wh n, ob => ∃ its ep, ob = W.listOf its ep ∧ its.size ≤ n ∧ PRel ρ xs its.toList ∧ (wh = true → its.size = xs.length)
  | .tup xs, ob => ∃ its, ob = { cls := .type "tuple", data := .seq its } ∧ LRel ρ xs its.toList
  | .cell v, ob => ∃ rv, ob.data = .cell rv ∧ ∀ u, v = some u → ∃ ru, rv = some ru ∧ VRel ρ u ru
  | .vial ds, ob => (a == sysModules) = false ∧ VialRel prog w ρ led ds ob
/-- the names of the frame, or of the block within it -/
noncomputable def LocRel (L : Addr) (env : Env) (σ : St) (ρ : List Addr) (m : Str → Option Value) (led : List (Addr × Obj)) : Prop := match σ.comp with
  | false => env.locals = L ∧ ∀ x v, getL x σ.locs = some v → ∃ rv, m x = some rv ∧ VRel ρ v rv
  | true => env.locals ∉ ρ ∧ ∃ ob es ep, (env.locals, ob) ∈ led ∧ ob.data = .dict es ep ∧ StrKeys es ∧ ∀ x v, getL x σ.locs = some v → ∃ rv, nsFind es x = some rv ∧ VRel ρ v rv
theorem LocRel.of {L : Addr} {env : Env} {σ σ' : St} {ρ ρ' : List Addr} {m : Str → Option Value} {led led' : List (Addr × Obj)} (h : LocRel L env σ ρ m led) (hc : σ'.comp = σ.comp) (hl : σ'.locs = σ.locs) (hv : ∀ v rv, VRel ρ v rv → VRel ρ' v rv)
    (hk : ∀ p ∈ led, p.1 ∉ ρ → p ∈ led' ∧ p.1 ∉ ρ') : LocRel L env σ' ρ' m led' := by
  unfold LocRel at h ⊢
  rw [hc, hl]
  cases e : σ.comp with
  | false => rw [e] at h; exact ⟨h.1, fun x v g => let ⟨rv, a, b⟩ := h.2 x v g; ⟨rv, a, hv _ _ b⟩⟩
  | true =>
    rw [e] at h
    obtain ⟨h1, ob, es, ep, h2, h3, h4, h5⟩ := h
    exact ⟨(hk _ h2 h1).2, ob, es, ep, (hk _ h2 h1).1, h3, h4, fun x v g => let ⟨rv, a, b⟩ := h5 x v g; ⟨rv, a, hv _ _ b⟩⟩
/-- what the world holds of a state -/
structure Rel (prog : Program) (w : World) (h₀ : Heap) (L : Addr) (env : Env) (σ : St) (ρ : List Addr) (m : Str → Option Value) (led : List (Addr × Obj)) (h : Heap) : Prop where
  F : Fr h₀ L h m
  N : News h₀ L h led
  nd : (led.map (·.1)).Nodup
  rln : ρ.length = σ.nxt
  rnd : ρ.Nodup
  rled : ∀ a ∈ ρ, (∃ ob, (a, ob) ∈ led) ∨ a < 466
  hp : ∀ i o, getH i σ.heap = some o → ∃ a ob, ρ[i]? = some a ∧ (a, ob) ∈ led ∧ ORel prog w ρ led a o ob
  loc : LocRel L env σ ρ m led
  cel : ∀ x i, getN x σ.cells = some i → ∃ a, env.cells.lookup x = some a ∧ ρ[i]? = some a
  low : ∀ a, a < 466 → ∃ o, h₀.get? a = some o
/-- from a state to a later one of the same frame -/
structure To (prog : Program) (w : World) (h₀ : Heap) (L : Addr) (env : Env) (σ : St) (ρ : List Addr) (m : Str → Option Value) (led : List (Addr × Obj)) (σ' : St) (ρ' : List Addr) (m' : Str → Option Value) (led' : List (Addr × Obj)) (h' : Heap) : Prop where
  pre : ∃ r, ρ' = ρ ++ r
  keep : ∀ p ∈ led, p.1 ∉ ρ → p.1 ≠ env.locals → p ∈ led' ∧ p.1 ∉ ρ'
  same : σ.comp = true → m' = m
  cmp : σ'.comp = σ.comp
  rel : Rel prog w h₀ L env σ' ρ' m' led' h'
/-- an entry of the ledger is changed -/
noncomputable def setN (d : Addr) (o' : Obj) : List (Addr × Obj) → List (Addr × Obj)
  | [] => []
  | (a, o) :: r => if a = d then (a, o') :: r else (a, o) :: setN d o' r
theorem pre_get {ρ r : List Addr} {i : Nat} {a : Addr} (h : ρ[i]? = some a) : (ρ ++ r)[i]? = some a := by
  rw [List.getElem?_append_left (List.getElem?_eq_some_iff.mp h).1]; exact h
theorem VRel.mono {ρ r : List Addr} : ∀ {v : AV} {rv : Value}, VRel ρ v rv → VRel (ρ ++ r) v rv
  | .none, _, h => h
  | .bool _, _, h => h
  | .int _, _, h => h
  | .str _, _, h => h
  | .ref _, _, ⟨a, h1, h2⟩ => ⟨a, pre_get h1, h2⟩
  | .top _, _, h => h
theorem OptRel.mono {ρ r : List Addr} : ∀ {v : Option AV} {rv : Option Value}, OptRel ρ v rv → OptRel (ρ ++ r) v rv
  | none, _, h => h
  | some _, _, ⟨rv, h1, h2⟩ => ⟨rv, h1, h2.mono⟩
theorem LRel.mono {ρ r : List Addr} : ∀ {v : List AV} {rv : List Value}, LRel ρ v rv → LRel (ρ ++ r) v rv
  | [], [], _ => trivial
  | _ :: _, _ :: _, ⟨h1, h2⟩ => ⟨h1.mono, LRel.mono h2⟩
theorem PRel.mono {ρ r : List Addr} : ∀ {v : List AV} {rv : List Value}, PRel ρ v rv → PRel (ρ ++ r) v rv
  | [], _, _ => by unfold PRel; trivial
  | _ :: _, _ :: _, ⟨h1, h2⟩ => ⟨h1.mono, PRel.mono h2⟩
theorem DRel.mono {ρ r : List Addr} {prog : Program} {w : World} {K : Type} [DecidableEq K] {knd : KeyKind prog w K} {mk : K → AK} {wh : Bool} {kn : List (AK × Option AV)} {n : Nat} {o : Obj} (h : DRel ρ knd mk wh kn n o) : DRel (ρ ++ r) knd mk wh kn n o :=
  let ⟨kvs, h1, h2, h3⟩ := h
  ⟨kvs, h1, h2, fun k r e => (h3 k r e).mono⟩
theorem ORel.mono {prog : Program} {w : World} {ρ r : List Addr} {led led' : List (Addr × Obj)} {a : Addr} (hk : ∀ p ∈ led, p.1 ∉ ρ → p ∈ led' ∧ p.1 ∉ ρ ++ r) : ∀ {o : AO} {ob : Obj}, ORel prog w ρ led a o ob → ORel prog w (ρ ++ r) led' a o ob
  | .inst _ _, _, ⟨dx, h1, h2⟩ => ⟨dx, pre_get h1, h2⟩
  | .attrs _ _, _, ⟨es, ep, h1, h2, h3, h4⟩ => ⟨es, ep, h1, h2, h3, fun x v e => let ⟨rv, a, b⟩ := h4 x v e; ⟨rv, a, b.mono⟩⟩
  | .dict true _ _ _, _, ⟨h1, h2⟩ => ⟨h1, DRel.mono h2⟩
  | .dict false _ _ _, _, ⟨h1, h2⟩ => ⟨h1, DRel.mono h2⟩
  | .list _ _ _, _, ⟨its, ep, h1, h2, h3, h4⟩ => ⟨its, ep, h1, h2, h3.mono, h4⟩
  | .tup _, _, ⟨its, h1, h2⟩ => ⟨its, h1, h2.mono⟩
  | .cell _, _, ⟨rv, h1, h2⟩ => ⟨rv, h1, fun u e => let ⟨ru, a, b⟩ := h2 u e; ⟨ru, a, b.mono⟩⟩
  | .vial _, _, ⟨h0, la, its, ep, k, t, cs, h1, h2, h3, h4⟩ => ⟨h0, la, its, ep, k, t, cs, h1, (hk _ h2 h3).1, (hk _ h2 h3).2, h4⟩
section
variable {prog : Program} {w : World} {h₀ : Heap} {L : Addr} {env : Env} {σ σ' σ₁ σ₂ : St} {ρ ρ' ρ₁ ρ₂ : List Addr} {m m' m₁ m₂ : Str → Option Value} {led led' led₁ led₂ : List (Addr × Obj)} {h h' h₁ h₂ : Heap}
theorem To.refl (R : Rel prog w h₀ L env σ ρ m led h) : To prog w h₀ L env σ ρ m led σ ρ m led h :=
  ⟨⟨[], by simp⟩, fun p a b _ => ⟨a, b⟩, fun _ => rfl, rfl, R⟩
theorem To.trans (A : To prog w h₀ L env σ ρ m led σ₁ ρ₁ m₁ led₁ h₁) (B : To prog w h₀ L env σ₁ ρ₁ m₁ led₁ σ₂ ρ₂ m₂ led₂ h₂) : To prog w h₀ L env σ ρ m led σ₂ ρ₂ m₂ led₂ h₂ := by
  obtain ⟨r, e⟩ := A.pre
  obtain ⟨q, e'⟩ := B.pre
  refine ⟨⟨r ++ q, by rw [e', e, List.append_assoc]⟩, fun p a b c => ?_, fun e => ?_, B.cmp.trans A.cmp, B.rel⟩
  · have := A.keep p a b c
    exact B.keep p this.1 this.2 c
  · exact (B.same (by rw [A.cmp]; exact e)).trans (A.same e)
theorem VRel.to {v : AV} {rv : Value} (h : VRel ρ v rv) (e : ∃ r, ρ' = ρ ++ r) : VRel ρ' v rv := by
  obtain ⟨r, rfl⟩ := e; exact h.mono
theorem LRel.to {v : List AV} {rv : List Value} (h : LRel ρ v rv) (e : ∃ r, ρ' = ρ ++ r) : LRel ρ' v rv := by
  obtain ⟨r, rfl⟩ := e; exact h.mono
/-- the ledger with one entry changed -/
theorem updF_of {d : Addr} {o : Obj} {led : List (Addr × Obj)} : (led.map (·.1)).Nodup → (d, o) ∈ led → UpdF d o led (fun o' => setN d o' led) := by
  induction led with
  | nil => intro _ h; exact nomatch h
  | cons q r ih =>
    obtain ⟨a, x⟩ := q
    intro nd hm
    have nd' : a ∉ r.map (·.1) ∧ (r.map (·.1)).Nodup := List.nodup_cons.mp nd
    by_cases e : a = d
    · subst e
      have hx : x = o := by
        rcases List.mem_cons.mp hm with e | hm
        · cases e; rfl
        · exact absurd (List.mem_map.mpr ⟨(a, o), hm, rfl⟩ : a ∈ r.map (·.1)) nd'.1
      subst hx
      have : (fun o' => setN a o' ((a, x) :: r)) = fun o' => (a, o') :: r := by funext o'; simp [setN]
      rw [this]
      exact .head fun p hp e => nd'.1 (List.mem_map.mpr ⟨p, hp, e⟩)
    · have hm' : (d, o) ∈ r := by
        rcases List.mem_cons.mp hm with e' | hm
        · cases e'; exact absurd rfl e
        · exact hm
      have : (fun o' => setN d o' ((a, x) :: r)) = fun o' => (a, x) :: setN d o' r := by funext o'; simp [setN, e]
      rw [this]
      exact UpdF.tail (g := fun o' => setN d o' r) e (ih nd'.2 hm')
theorem upd_of {d : Addr} {o : Obj} (o' : Obj) {led : List (Addr × Obj)} (nd : (led.map (·.1)).Nodup) (hm : (d, o) ∈ led) : Upd d o o' led (setN d o' led) := by
  induction led with
  | nil => exact nomatch hm
  | cons q r ih =>
    obtain ⟨a, x⟩ := q
    have nd' : a ∉ r.map (·.1) ∧ (r.map (·.1)).Nodup := List.nodup_cons.mp nd
    by_cases e : a = d
    · subst e
      have hx : x = o := by
        rcases List.mem_cons.mp hm with e | hm
        · cases e; rfl
        · exact absurd (List.mem_map.mpr ⟨(a, o), hm, rfl⟩ : a ∈ r.map (·.1)) nd'.1
      subst hx
      simp only [setN, if_true]
      exact .head fun p hp e => nd'.1 (List.mem_map.mpr ⟨p, hp, e⟩)
    · have hm' : (d, o) ∈ r := by
        rcases List.mem_cons.mp hm with e' | hm
        · cases e'; exact absurd rfl e
        · exact hm
      simp only [setN, if_neg e]
      exact .tail e (ih nd'.2 hm')
theorem setN_map {d : Addr} {o' : Obj} : ∀ {led : List (Addr × Obj)}, (setN d o' led).map (·.1) = led.map (·.1)
  | [] => rfl
  | (a, x) :: r => by
    unfold setN
    split
    · rfl
    · show a :: (setN d o' r).map (·.1) = _; rw [setN_map]; rfl
theorem setN_here {d : Addr} {o o' : Obj} : ∀ {led : List (Addr × Obj)}, (d, o) ∈ led → (d, o') ∈ setN d o' led
  | (a, x) :: r, hm => by
    unfold setN
    split
    · next e => subst e; exact .head _
    · next e =>
      rcases List.mem_cons.mp hm with e' | hm
      · cases e'; exact absurd rfl e
      · exact .tail _ (setN_here hm)
theorem setN_other {d : Addr} {o' : Obj} {p : Addr × Obj} (hp : p.1 ≠ d) : ∀ {led : List (Addr × Obj)}, p ∈ led → p ∈ setN d o' led
  | (a, x) :: r, hm => by
    unfold setN
    split
    · next e =>
      rcases List.mem_cons.mp hm with e' | hm
      · subst e'; exact absurd e hp
      · exact .tail _ hm
    · rcases List.mem_cons.mp hm with e' | hm
      · subst e'; exact .head _
      · exact .tail _ (setN_other hp hm)
theorem nbeq {a b : Nat} (h : a ≠ b) : Nat.beq a b = false := by
  cases e : Nat.beq a b with
  | false => rfl
  | true => exact absurd (Nat.eq_of_beq_eq_true e) h
theorem getH_putH {i j : Nat} {o : AO} : ∀ {hp : List (Nat × AO)}, getH i (putH j o hp) = if i = j then (getH i hp).map (fun _ => o) else getH i hp
  | [] => by simp [putH, getH]
  | (k, p) :: r => by
    unfold putH
    by_cases e : j = k
    · subst e
      simp only [Nat.beq_refl, cond_true, getH]
      by_cases e' : i = j
      · subst e'; simp [Nat.beq_refl]
      · have : Nat.beq i j = false := nbeq e'
        simp [this, e']
    · have : Nat.beq j k = false := nbeq e
      simp only [this, cond_false, getH]
      by_cases e' : i = k
      · subst e'; simp [Nat.beq_refl, Ne.symm e]
      · have : Nat.beq i k = false := nbeq e'
        simp only [this, cond_false]
        exact getH_putH
theorem rho_inj : ∀ {ρ : List Addr} {i j : Nat} {a : Addr}, ρ.Nodup → ρ[i]? = some a → ρ[j]? = some a → i = j
  | b :: r, 0, 0, a, nd, h1, h2 => rfl
  | b :: r, 0, j + 1, a, nd, h1, h2 => by
    have e : b = a := by simpa using h1
    have h2' : r[j]? = some a := by simpa using h2
    exact absurd (e ▸ List.mem_of_getElem? h2') (List.nodup_cons.mp nd).1
  | b :: r, i + 1, 0, a, nd, h1, h2 => by
    have e : b = a := by simpa using h2
    have h2' : r[i]? = some a := by simpa using h1
    exact absurd (e ▸ List.mem_of_getElem? h2') (List.nodup_cons.mp nd).1
  | b :: r, i + 1, j + 1, a, nd, h1, h2 => by
    have h1' : r[i]? = some a := by simpa using h1
    have h2' : r[j]? = some a := by simpa using h2
    rw [rho_inj (List.nodup_cons.mp nd).2 h1' h2']
theorem mem_rho {i : Nat} {a : Addr} (h : ρ[i]? = some a) : a ∈ ρ := List.mem_of_getElem? h
theorem uniq {a : Addr} {x y : Obj} {led : List (Addr × Obj)} (nd : (led.map (·.1)).Nodup) (h1 : (a, x) ∈ led) (h2 : (a, y) ∈ led) : x = y := by
  induction led with
  | nil => exact nomatch h1
  | cons q r ih =>
    obtain ⟨b, z⟩ := q
    have nd' : b ∉ r.map (·.1) ∧ (r.map (·.1)).Nodup := List.nodup_cons.mp nd
    have key : ∀ {u : Obj}, (a, u) ∈ r → b ≠ a := fun hu e => nd'.1 (List.mem_map.mpr ⟨(a, _), hu, e.symm⟩)
    rcases List.mem_cons.mp h1 with e1 | g1 <;> rcases List.mem_cons.mp h2 with e2 | g2
    · rw [Prod.mk.injEq] at e1 e2; rw [e1.2, e2.2]
    · rw [Prod.mk.injEq] at e1; exact absurd e1.1.symm (key g2)
    · rw [Prod.mk.injEq] at e2; exact absurd e2.1.symm (key g1)
    · exact ih nd'.2 g1 g2
/-- an object is changed -/
theorem Rel.put (R : Rel prog w h₀ L env σ ρ m led h) {i : Nat} {a : Addr} {o o' : AO} {ob ob' : Obj} (hi : σ.obj i = some o) (ha : ρ[i]? = some a) (hm : (a, ob) ∈ led)
    (F' : Fr h₀ L h' m) (N' : News h₀ L h' (setN a ob' led)) (ho : (∀ p ∈ led, p.1 ∉ ρ → p ∈ setN a ob' led ∧ p.1 ∉ ρ ++ []) → ORel prog w ρ (setN a ob' led) a o' ob') :
    To prog w h₀ L env σ ρ m led (σ.set i o') ρ m (setN a ob' led) h' := by
  have hk : ∀ p ∈ led, p.1 ∉ ρ → p ∈ setN a ob' led ∧ p.1 ∉ ρ ++ [] := fun p hp hr => ⟨setN_other (fun e => hr (e ▸ mem_rho ha)) hp, by simpa using hr⟩
  refine ⟨⟨[], by simp⟩, fun p hp hr _ => ⟨(hk p hp hr).1, hr⟩, fun _ => rfl, rfl, ⟨F', N', by rw [setN_map]; exact R.nd, R.rln, R.rnd, fun b hb => ?_, fun j q hj => ?_, R.loc.of rfl rfl (fun _ _ h => h) (fun p hp hr => ⟨(hk p hp hr).1, hr⟩), R.cel, R.low⟩⟩
  · rcases R.rled b hb with ⟨x, hx⟩ | hx
    rotate_left
    · exact .inr hx
    refine .inl ?_
    by_cases e : b = a
    · subst e; exact ⟨ob', setN_here hx⟩
    · exact ⟨x, setN_other e hx⟩
  · have hj' : getH j (putH i o' σ.heap) = some q := hj
    rw [getH_putH] at hj'
    by_cases e : j = i
    · subst e
      rw [if_pos rfl] at hj'
      have : getH j σ.heap = some o := hi
      rw [this] at hj'
      cases hj'
      exact ⟨a, ob', ha, setN_here hm, ho hk⟩
    · rw [if_neg e] at hj'
      obtain ⟨b, x, h1, h2, h3⟩ := R.hp j q hj'
      have hb : b ≠ a := by rintro rfl; exact e (rho_inj R.rnd h1 ha)
      refine ⟨b, x, h1, setN_other hb h2, ?_⟩
      have := ORel.mono (r := []) hk h3
      simpa using this
/-- a new object -/
theorem Rel.add (R : Rel prog w h₀ L env σ ρ m led h) {a : Addr} {o : AO} {ob : Obj} (F' : Fr h₀ L h' m) (N' : News h₀ L h' ((a, ob) :: led)) (ha : ∀ p ∈ led, p.1 < a)
    (ho : ORel prog w (ρ ++ [a]) ((a, ob) :: led) a o ob) : To prog w h₀ L env σ ρ m led (σ.new o).2 (ρ ++ [a]) m ((a, ob) :: led) h' := by
  have hr : ∀ b ∈ ρ, b < a := fun b hb => by
    rcases R.rled b hb with ⟨x, hx⟩ | hx
    · exact ha _ hx
    · refine Nat.lt_of_lt_of_le hx (Nat.le_of_not_lt fun e => ?_)
      obtain ⟨o, ho⟩ := R.low a e
      have := (N' _ (.head _)).2.2
      rw [ho] at this; cases this
  have hk : ∀ p ∈ led, p.1 ∉ ρ → p ∈ (a, ob) :: led ∧ p.1 ∉ ρ ++ [a] := fun p hp hn => ⟨.tail _ hp, by
    intro e
    rcases List.mem_append.mp e with e | e
    · exact hn e
    · have e' : p.1 = a := by simpa using e
      have := ha p hp; rw [e'] at this; exact Nat.lt_irrefl _ this⟩
  refine ⟨⟨[a], rfl⟩, fun p hp hr _ => hk p hp hr, fun _ => rfl, rfl, ⟨F', N', ?_, ?_, ?_, ?_, ?_, ?_, ?_, R.low⟩⟩
  · refine List.nodup_cons.mpr ⟨fun e => ?_, R.nd⟩
    obtain ⟨p, hp, e⟩ := List.mem_map.mp e
    have e' : p.1 = a := e
    have := ha p hp; rw [e'] at this; exact Nat.lt_irrefl _ this
  · show (ρ ++ [a]).length = σ.nxt + 1
    rw [List.length_append, R.rln]; rfl
  · refine List.nodup_append.mpr ⟨R.rnd, by simp, fun x hx y hy => ?_⟩
    have : y = a := by simpa using hy
    subst this
    exact Nat.ne_of_lt (hr x hx)
  · intro b hb
    rcases List.mem_append.mp hb with hb | hb
    · exact (R.rled b hb).imp (fun ⟨x, hx⟩ => ⟨x, .tail _ hx⟩) id
    · have : b = a := by simpa using hb
      subst this; exact .inl ⟨ob, .head _⟩
  · intro j q hj
    have hj' : getH j ((σ.nxt, o) :: σ.heap) = some q := hj
    unfold getH at hj'
    by_cases e : j = σ.nxt
    · subst e
      simp only [Nat.beq_refl, cond_true] at hj'
      cases hj'
      refine ⟨a, ob, ?_, .head _, ho⟩
      rw [List.getElem?_append_right (by rw [R.rln]; exact Nat.le_refl _), R.rln]
      simp
    · have e' : Nat.beq j σ.nxt = false := nbeq e
      simp only [e', cond_false] at hj'
      obtain ⟨b, x, h1, h2, h3⟩ := R.hp j q hj'
      exact ⟨b, x, pre_get h1, .tail _ h2, ORel.mono hk h3⟩
  · exact R.loc.of rfl rfl (fun _ _ h => h.mono) hk
  · intro x i e
    obtain ⟨c, p, q⟩ := R.cel x i e
    exact ⟨c, p, pre_get q⟩
/-- the last one -/
theorem last_rho (R : Rel prog w h₀ L env σ ρ m led h) {a : Addr} : (ρ ++ [a])[σ.nxt]? = some a := by
  rw [List.getElem?_append_right (by rw [R.rln]; exact Nat.le_refl _), R.rln]; simp
/-- the world makes a thing that the state does not tell of -/
theorem Rel.pas (R : Rel prog w h₀ L env σ ρ m led h) {a : Addr} {ob : Obj} (F' : Fr h₀ L h' m) (N' : News h₀ L h' ((a, ob) :: led)) (ha : ∀ p ∈ led, p.1 < a) :
    To prog w h₀ L env σ ρ m led σ ρ m ((a, ob) :: led) h' ∧ a ∉ ρ := by
  have hr : ∀ b ∈ ρ, b < a := fun b hb => by
    rcases R.rled b hb with ⟨x, hx⟩ | hx
    · exact ha _ hx
    · refine Nat.lt_of_lt_of_le hx (Nat.le_of_not_lt fun e => ?_)
      obtain ⟨o, ho⟩ := R.low a e
      have := (N' _ (.head _)).2.2
      rw [ho] at this; cases this
  refine ⟨⟨⟨[], by simp⟩, fun p hp hn _ => ⟨.tail _ hp, hn⟩, fun _ => rfl, rfl, ⟨F', N', ?_, R.rln, R.rnd, ?_, ?_, R.loc.of rfl rfl (fun _ _ h => h) (fun p hp hn => ⟨.tail _ hp, hn⟩), R.cel, R.low⟩⟩, fun e => Nat.lt_irrefl _ (hr a e)⟩
  · refine List.nodup_cons.mpr ⟨fun e => ?_, R.nd⟩
    obtain ⟨p, hp, e⟩ := List.mem_map.mp e
    have e' : p.1 = a := e
    have := ha p hp; rw [e'] at this; exact Nat.lt_irrefl _ this
  · intro b hb
    exact (R.rled b hb).imp (fun ⟨x, hx⟩ => ⟨x, .tail _ hx⟩) id
  · intro j q hj
    obtain ⟨b, x, h1, h2, h3⟩ := R.hp j q hj
    refine ⟨b, x, h1, .tail _ h2, ?_⟩
    have := ORel.mono (r := []) (led' := (a, ob) :: led) (fun p hp hn => ⟨.tail _ hp, by simpa using hn⟩) h3
    simpa using this
/-- a passive thing changes -/
theorem Rel.pasSet (R : Rel prog w h₀ L env σ ρ m led h) {a : Addr} {ob ob' : Obj} (hm : (a, ob) ∈ led) (ha : a ∉ ρ) (hL : a ≠ env.locals) (hd : ∀ its ep, ob ≠ W.listOf its ep) (F' : Fr h₀ L h' m) (N' : News h₀ L h' (setN a ob' led)) :
    Rel prog w h₀ L env σ ρ m (setN a ob' led) h' := by
  refine ⟨F', N', by rw [setN_map]; exact R.nd, R.rln, R.rnd, ?_, ?_, ?_, R.cel, R.low⟩
  · intro b hb
    exact (R.rled b hb).imp (fun ⟨x, hx⟩ => ⟨x, setN_other (fun e => ha (by have e' : b = a := e; rw [← e']; exact hb)) hx⟩) id
  · intro j q hj
    obtain ⟨b, x, h1, h2, h3⟩ := R.hp j q hj
    refine ⟨b, x, h1, setN_other (fun e => ha (by have e' : b = a := e; rw [← e']; exact mem_rho h1)) h2, ?_⟩
    cases q <;> try exact h3
    obtain ⟨h0, la, its, ep, k, t, cs, e1, e2, e3⟩ := h3
    refine ⟨h0, la, its, ep, k, t, cs, e1, setN_other (fun e => ?_) e2, e3⟩
    dsimp only at e
    subst e
    exact hd its ep (uniq R.nd hm e2)
  · have hl := R.loc
    unfold LocRel at hl ⊢
    cases e : σ.comp with
    | false => rw [e] at hl; exact hl
    | true =>
      rw [e] at hl
      obtain ⟨h1, ox, es, ep, h2, h3⟩ := hl
      exact ⟨h1, ox, es, ep, setN_other (Ne.symm hL) h2, h3⟩
end
end Mine
namespace Mine
@[reducible] def S (z : Shared) (h : Heap) (tk : Nat) : Shared := ⟨h, z.gens, z.drawn, tk, z.os⟩
/-- what a piece of the program stands in -/
structure Room (K : Frag) (A₀ A : Around) (base h₀ : Heap) (outer : List Env) (fenv env : Env) (L : Addr) (sc : Scope) (n : Nat) : Prop where
  below : Below A₀ base outer h₀
  frames : A.frames = some (fenv :: outer)
  ffr : fenv.frame = some L
  fkind : fenv.scope.kind = .function
  esc : env.scope = sc
  ekind : sc.kind = .function
  eglob : env.globals = mainGlobals
  ebl : env.builtins = builtinsNs
  depth : A.depth + 4 * n < recursionLimit
  units : A.units + 40 * n + 100 < cLine
  hand : A.handled = none
  X : K.In h₀
  T : ∃ p loose mg mb, TopRead p loose mg mb h₀
theorem Room.le {K : Frag} {A₀ A : Around} {base h₀ : Heap} {outer : List Env} {fenv env : Env} {L : Addr} {sc : Scope} {n k : Nat} (R : Room K A₀ A base h₀ outer fenv env L sc n) (h : k ≤ n) : Room K A₀ A base h₀ outer fenv env L sc k :=
  { R with depth := by have := R.depth; omega, units := by have := R.units; omega }
/-- from σ to σ' the piece gives what V tells -/
noncomputable def Snd {α : Type} (prog : Program) (w : World) (K : Frag) (sc : Scope) (n : Nat) (σ σ' : St) (c : Env → Sem α) (V : List Addr → α → Prop) : Prop :=
  ∀ (A₀ A : Around) (base h₀ : Heap) (outer : List Env) (fenv env : Env) (L : Addr) (m : Str → Option Value) (ρ : List Addr) (led : List (Addr × Obj)) (h : Heap) (tk : Nat) (z : Shared) (Q : α → Shared → Prop) (E : Value → Shared → Prop),
    Room K A₀ A base h₀ outer fenv env L sc n → Rel prog w h₀ L env σ ρ m led h →
    (∀ ρ' m' led' h' tk' v, To prog w h₀ L env σ ρ m led σ' ρ' m' led' h' → V ρ' v → Q v (S z h' tk')) → wpAny (model prog w) A (c env) Q E (S z h tk)
theorem Snd.le {α : Type} {prog : Program} {w : World} {K : Frag} {sc : Scope} {n k : Nat} {σ σ' : St} {c : Env → Sem α} {V : List Addr → α → Prop} (H : Snd prog w K sc k σ σ' c V) (h : k ≤ n) : Snd prog w K sc n σ σ' c V :=
  fun A₀ A base h₀ outer fenv env L m ρ led hh tk z Q E R X q => H A₀ A base h₀ outer fenv env L m ρ led hh tk z Q E (R.le h) X q
noncomputable def strsOf : List Value → List Str → Prop
  | [], [] => True
  | .str x _ :: r, y :: q => x = y ∧ strsOf r q
  | _, _ => False
/-- what the table tells is so -/
structure TpOK (prog : Program) (K : Frag) (tp : Tp) : Prop where
  glob : ∀ x v, tp.glob x = some v → nsIn K mainGlobals x = some (some v) ∨ (nsIn K mainGlobals x = some none ∧ bootBuiltins x = some v ∧ x ≠ "__name__")
  attr : ∀ C a, (tp.attrs C).any (sEqB a) = true → plainGet K C a = true ∧ hasDictIn K C = true ∧ (∃ attr, findIn K (.ref C) a = some attr ∧ noGet K attr = true) ∧
    findIn K (.ref C) "__setattr__" = some (some (.builtin "object.__setattr__")) ∧ plainOver K C = true ∧ takerIn K C a = some none
  tups : ∀ t l, tp.tups t = some l → ∃ ob items n, K.lookup t = some ob ∧ ob.cls = .type "tuple" ∧ ob.data = .seq items n ∧ strsOf items.toList l
  keep : ∀ a, keepA tp a = true → keepIn K (.ref a) = true
theorem sEq_iff {a b : Str} : sEqB a b = true ↔ a = b := by unfold sEqB; exact decide_eq_true_iff
theorem sEq_no {a b : Str} (h : a ≠ b) : sEqB a b = false := by unfold sEqB; exact decide_eq_false h
theorem sEq_self {a : Str} : sEqB a a = true := sEq_iff.mpr rfl
theorem getL_putL {x y : Str} {v : AV} : ∀ {l : List (Str × AV)}, getL y (putL x v l) = if y = x then some v else getL y l
  | [] => by
    unfold putL getL
    by_cases e : y = x
    · subst e; simp [sEq_self]
    · simp [sEq_no e, e, getL]
  | (z, u) :: r => by
    unfold putL
    by_cases e : x = z
    · subst e
      simp only [sEq_self, cond_true, getL]
      by_cases e' : y = x
      · subst e'; simp [sEq_self]
      · simp [sEq_no e', e']
    · simp only [sEq_no e, cond_false, getL]
      by_cases e' : y = z
      · subst e'
        simp [sEq_self, Ne.symm e]
      · simp only [sEq_no e', cond_false]
        exact getL_putL
section
variable {prog : Program} {w : World} {K : Frag} {tp : Tp} {sc : Scope} {n : Nat} {σ σ' : St}
theorem Rel.obj {h₀ : Heap} {L : Addr} {env : Env} {ρ : List Addr} {m : Str → Option Value} {led : List (Addr × Obj)} {h : Heap} (R : Rel prog w h₀ L env σ ρ m led h) {i : Nat} {o : AO} (e : σ.obj i = some o) {a : Addr} (ha : ρ[i]? = some a) :
    ∃ ob, (a, ob) ∈ led ∧ ORel prog w ρ led a o ob := by
  obtain ⟨b, ob, h1, h2, h3⟩ := R.hp i o e
  rw [ha] at h1; cases h1
  exact ⟨ob, h2, h3⟩
theorem kindOf_eq {env : Env} (hs : env.scope = sc) (x : Str) : env.kindOf x = kindOf sc x := by subst hs; rfl
/-- a name is read: nothing changes -/
theorem load_ok (T : TpOK prog K tp) {x : Str} {a : AV} (e : load tp sc σ x = some a) {A₀ A : Around} {base h₀ : Heap} {outer : List Env} {fenv env : Env} {L : Addr} {m : Str → Option Value} {ρ : List Addr} {led : List (Addr × Obj)} {h : Heap} {tk : Nat} {z : Shared} {Q : Value → Shared → Prop} {E : Value → Shared → Prop}
    (R : Room K A₀ A base h₀ outer fenv env L sc n) (X : Rel prog w h₀ L env σ ρ m led h) (fin : ∀ v, VRel ρ a v → Q v (S z h tk)) : wpAny (model prog w) A (loadName env x) Q E (S z h tk) := by
  have hk : env.scope.kind = .function := by rw [R.esc]; exact R.ekind
  unfold load at e
  cases hx : kindOf sc x with
  | none => rw [hx] at e; cases e
  | some k =>
    rw [hx] at e
    have hx' : env.kindOf x = some k := (kindOf_eq R.esc x).trans hx
    cases k with
    | «local» =>
      dsimp only at e
      have hl := X.loc
      unfold LocRel at hl
      cases hc : σ.comp with
      | false =>
        rw [hc] at hl
        obtain ⟨rv, h1, h2⟩ := hl.2 x a e
        refine wpAny_loadName_local hk hx' (m := m) ?_ h1 (fin _ h2)
        rw [hl.1]; exact X.F.ns
      | true =>
        rw [hc] at hl
        obtain ⟨_, ob, es, ep, hm, h1, h2, h3⟩ := hl
        obtain ⟨rv, h4, h5⟩ := h3 x a e
        exact wpAny_loadName_local hk hx' (m := nsFind es) ⟨ob, es, ep, (X.N _ hm).1, h1, h2, fun _ => rfl⟩ h4 (fin _ h5)
    | cell =>
      dsimp only at e
      cases hc : getN x σ.cells with
      | none => rw [hc] at e; cases e
      | some c =>
        rw [hc] at e; dsimp only at e
        obtain ⟨ca, h1, h2⟩ := X.cel x c hc
        cases ho : σ.obj c with
        | none => rw [ho] at e; cases e
        | some o =>
          rw [ho] at e
          cases o with
          | cell u =>
            cases u with
            | none => cases e
            | some u =>
              cases e
              obtain ⟨ob, hm, rv, h3, h4⟩ := X.obj ho h2
              obtain ⟨ru, rfl, h5⟩ := h4 _ rfl
              exact wpAny_loadName_cell hk hx' h1 ⟨ob, (X.N _ hm).1, h3⟩ (fin _ h5)
          | _ => cases e
    | globalImplicit =>
      dsimp only at e
      cases hg : tp.glob x with
      | none => rw [hg] at e; cases e
      | some v =>
        rw [hg] at e; cases e
        obtain ⟨p, loose, mg, mb, TR⟩ := R.T
        have hgl : wpAny (model prog w) A (loadGlobal env x) Q E (S z h tk) := by
          rcases T.glob x v hg with h1 | ⟨h1, h2, h3⟩
          · exact loadGlobal_global (env := env) (by rw [R.eglob]; exact TR.g.keeps X.F.keep) (mg_of R.X TR.g h1) (fin _ rfl)
          · exact loadGlobal_builtin (env := env) (by rw [R.eglob]; exact TR.g.keeps X.F.keep) (mg_none_of R.X TR.g h1) (by rw [R.ebl]; exact TR.b.keeps X.F.keep) ((TR.builtins x h3).trans h2) (fin _ rfl)
        unfold loadName
        simp only [Env.blockKind, hk, hx', ScopeKind.isAnnotationScope, Bool.false_and, Bool.false_eq_true, if_false]
        exact hgl
    | _ => cases e
/-- a name is read -/
theorem snd_load (T : TpOK prog K tp) {x : Str} {a : AV} (e : load tp sc σ x = some a) : Snd prog w K sc n σ σ (fun env => loadName env x) (fun ρ v => VRel ρ a v) := by
  intro A₀ A base h₀ outer fenv env L m ρ led h tk z Q E R X q
  exact load_ok T e R X fun v hv => q _ _ _ _ _ _ (To.refl X) hv
theorem mem_setN {d : Addr} {o' : Obj} {p : Addr × Obj} {led : List (Addr × Obj)} (nd : (led.map (·.1)).Nodup) (h : p ∈ setN d o' led) : p = (d, o') ∨ (p ∈ led ∧ p.1 ≠ d) := by
  induction led with
  | nil => exact nomatch h
  | cons q r ih =>
    obtain ⟨a, x⟩ := q
    have nd' : a ∉ r.map (·.1) ∧ (r.map (·.1)).Nodup := List.nodup_cons.mp nd
    unfold setN at h
    by_cases e : a = d
    · rw [if_pos e] at h
      subst e
      rcases List.mem_cons.mp h with h | h
      · exact .inl h
      · exact .inr ⟨.tail _ h, fun e => nd'.1 (List.mem_map.mpr ⟨p, h, e⟩)⟩
    · rw [if_neg e] at h
      rcases List.mem_cons.mp h with h | h
      · subst h; exact .inr ⟨.head _, e⟩
      · rcases ih nd'.2 h with h | ⟨h1, h2⟩
        · exact .inl h
        · exact .inr ⟨.tail _ h1, h2⟩
theorem news_setN {h₀ h h' : Heap} {L a : Addr} {ob ob' : Obj} {led : List (Addr × Obj)} (nd : (led.map (·.1)).Nodup) (N : News h₀ L h led) (hm : (a, ob) ∈ led) (hs : Heap.SameBut a h h') (ho : h'.get? a = some ob') : News h₀ L h' (setN a ob' led) := by
  intro p hp
  rcases mem_setN nd hp with rfl | ⟨h1, h2⟩
  · exact ⟨ho, (N _ hm).2⟩
  · exact ⟨(hs.2 _ h2).trans (N p h1).1, (N p h1).2⟩
/-- a name is stored -/
theorem snd_store {x : Str} {a : AV} {v : Value} {σ' : St} (e : store sc σ x a = some σ') {A₀ A : Around} {base h₀ : Heap} {outer : List Env} {fenv env : Env} {L : Addr} {m : Str → Option Value} {ρ : List Addr} {led : List (Addr × Obj)} {h : Heap} {tk : Nat} {z : Shared} {Q : Unit → Shared → Prop} {E : Value → Shared → Prop}
    (R : Room K A₀ A base h₀ outer fenv env L sc n) (X : Rel prog w h₀ L env σ ρ m led h) (hv : VRel ρ a v)
    (q : ∀ ρ' m' led' h' tk', To prog w h₀ L env σ ρ m led σ' ρ' m' led' h' → Q () (S z h' tk')) : wpAny (model prog w) A (storeName env x v) Q E (S z h tk) := by
  have hk : env.scope.kind = .function := by rw [R.esc]; exact R.ekind
  have hkk : (env.scope.kind == .class || (env.scope.kind == .module && env.locals != env.globals)) = false := by rw [hk]; rfl
  unfold store at e
  cases hx : kindOf sc x with
  | none => rw [hx] at e; cases e
  | some k =>
    rw [hx] at e
    have hx' : env.kindOf x = some k := (kindOf_eq R.esc x).trans hx
    cases k with
    | «local» =>
      dsimp only at e
      cases e
      have hl := X.loc
      unfold LocRel at hl
      cases hc : σ.comp with
      | false =>
        rw [hc] at hl
        refine wpAny_storeName_local hx' (m := m) (by rw [hl.1]; exact X.F.ns) (fun h' hn hs => ?_) hkk
        rw [hl.1] at hn hs
        refine q ρ (fun y => if y = x then some v else m y) led h' (tk + 1) ⟨⟨[], by simp⟩, fun p a b _ => ⟨a, b⟩, fun e => (by rw [hc] at e; exact nomatch e), rfl, ?_⟩
        refine ⟨X.F.set hn hs, X.N.set hs, X.nd, X.rln, X.rnd, X.rled, X.hp, ?_, X.cel, X.low⟩
        unfold LocRel
        dsimp only
        rw [hc]
        refine ⟨hl.1, fun y u hy => ?_⟩
        rw [getL_putL] at hy
        by_cases ey : y = x
        · rw [if_pos ey] at hy ⊢
          cases hy; exact ⟨v, rfl, hv⟩
        · rw [if_neg ey] at hy ⊢
          exact hl.2 y u hy
      | true =>
        rw [hc] at hl
        obtain ⟨hC, ob, es, ep, hm, h1, h2, h3⟩ := hl
        refine wpAny_storeName_local hx' (m := nsFind es) ⟨ob, es, ep, (X.N _ hm).1, h1, h2, fun _ => rfl⟩ (fun h' hn hs => ?_) hkk
        obtain ⟨ob', es', ep', g1, g2, g3, g4⟩ := hn
        have hk' : ∀ p ∈ led, p.1 ∉ ρ → p.1 ≠ env.locals → p ∈ setN env.locals ob' led ∧ p.1 ∉ ρ := fun p hp hr hn => ⟨setN_other hn hp, hr⟩
        refine q ρ m (setN env.locals ob' led) h' (tk + 1) ⟨⟨[], by simp⟩, hk', fun _ => rfl, rfl, ?_⟩
        refine ⟨X.F.change hs (X.N _ hm).2.1 (X.N _ hm).2.2, news_setN X.nd X.N hm hs g1, by rw [setN_map]; exact X.nd, X.rln, X.rnd, ?_, ?_, ?_, X.cel, X.low⟩
        · intro b hb
          exact (X.rled b hb).imp (fun ⟨y, hy⟩ => ⟨y, setN_other (fun e => hC (by have e' : b = env.locals := e; rw [← e']; exact hb)) hy⟩) id
        · intro j o hj
          obtain ⟨b, y, k1, k2, k3⟩ := X.hp j o hj
          refine ⟨b, y, k1, setN_other (fun e => hC (by have e' : b = env.locals := e; rw [← e']; exact mem_rho k1)) k2, ?_⟩
          cases o <;> try exact k3
          obtain ⟨h0, la, its, ep2, k, t, cs, e1, e2, e3⟩ := k3
          refine ⟨h0, la, its, ep2, k, t, cs, e1, setN_other (fun e => ?_) e2, e3⟩
          dsimp only at e
          subst e
          have := uniq X.nd hm e2
          rw [this] at h1
          cases h1
        · unfold LocRel
          dsimp only
          rw [hc]
          refine ⟨hC, ob', es', ep', setN_here hm, g2, g3, fun y u hy => ?_⟩
          rw [g4]
          rw [getL_putL] at hy
          dsimp only
          by_cases ey : y = x
          · rw [if_pos ey] at hy ⊢
            cases hy; exact ⟨v, rfl, hv⟩
          · rw [if_neg ey] at hy ⊢
            exact h3 y u hy
    | cell =>
      dsimp only at e
      cases hc : getN x σ.cells with
      | none => rw [hc] at e; cases e
      | some c =>
        rw [hc] at e; dsimp only at e
        obtain ⟨ca, h1, h2⟩ := X.cel x c hc
        cases ho : σ.obj c with
        | none => rw [ho] at e; cases e
        | some o =>
          rw [ho] at e
          cases o <;> try (cases e; done)
          next u =>
          cases e
          obtain ⟨ob, hm, rv, h3, h4⟩ := X.obj ho h2
          refine wpAny_storeName_cell hk hx' h1 ⟨ob, (X.N _ hm).1, h3⟩ fun h' hn hs => ?_
          obtain ⟨ob', g1, g2⟩ := hn
          refine q ρ m (setN ca ob' led) h' _ (X.put ho h2 hm (X.F.change hs (X.N _ hm).2.1 (X.N _ hm).2.2) (news_setN X.nd X.N hm hs g1) fun _ => ?_)
          exact ⟨some v, g2, fun u e => by cases e; exact ⟨v, rfl, hv⟩⟩
    | _ => cases e
theorem handed {ρ : List Addr} {a : AV} {v : Value} (h : VRel ρ a v) (ht : ∀ u, a ≠ .top u) : handedIn v = true := by
  cases a with
  | none => cases h; rfl
  | bool b => cases h; rfl
  | int i => obtain ⟨t, rfl⟩ := h; rfl
  | str i => obtain ⟨t, rfl⟩ := h; rfl
  | ref i => obtain ⟨t, _, rfl⟩ := h; rfl
  | top u => exact absurd rfl (ht u)
/-- a thing of a class, as the state tells of it -/
theorem inst_at {i C d : Nat} {a : Addr} {kn : List (Str × AV)} {k : Nat} {h₀ : Heap} {L : Addr} {env : Env} {m : Str → Option Value} {ρ : List Addr} {led : List (Addr × Obj)} {h : Heap}
    (X : Rel prog w h₀ L env σ ρ m led h) (hi : σ.obj i = some (.inst C d)) (hd : σ.obj d = some (.attrs kn k)) (ha : ρ[i]? = some a) :
    ∃ dx es ep, W.InstAt h a (instObj C dx) C (some (dictOf es ep)) ∧ ρ[d]? = some dx ∧ (dx, dictOf es ep) ∈ led ∧ es.length ≤ k ∧ es.any (·.refKey) = false ∧ ∀ x v, getL x kn = some v → ∃ rv, W.getL x es = some (some rv) ∧ VRel ρ v rv := by
  obtain ⟨ob, hm, dx, h1, rfl⟩ := X.obj hi ha
  obtain ⟨ob', hm', es, ep, rfl, h2, h3, h4⟩ := X.obj hd h1
  exact ⟨dx, es, ep, InstAt.of_news X.N hm hm', h1, hm', h2, h3, h4⟩
theorem snd_getAttr (T : TpOK prog K tp) {o a : AV} {ov : Value} {x : Str} (e : getAttr tp σ o x = some a) {A₀ A : Around} {base h₀ : Heap} {outer : List Env} {fenv env : Env} {L : Addr} {m : Str → Option Value} {ρ : List Addr} {led : List (Addr × Obj)} {h : Heap} {tk : Nat} {z : Shared} {Q : Value → Shared → Prop} {E : Value → Shared → Prop} {expr : Bool}
    (R : Room K A₀ A base h₀ outer fenv env L sc n) (X : Rel prog w h₀ L env σ ρ m led h) (hv : VRel ρ o ov)
    (q : ∀ v, VRel ρ a v → Q v (S z h (tk + 1))) : wpAny (model prog w) A (PySem.getAttr ov x expr) Q E (S z h tk) := by
  unfold getAttr at e
  cases o <;> try (cases e; done)
  next i =>
  obtain ⟨ra, h1, rfl⟩ := hv
  dsimp only at e
  cases ho : σ.obj i with
  | none => rw [ho] at e; cases e
  | some ob =>
    rw [ho] at e
    cases ob <;> try (cases e; done)
    next C d =>
    dsimp only at e
    cases hat : (tp.attrs C).any (sEqB x) with
    | false => rw [hat] at e; cases e
    | true =>
      rw [hat, cond_true] at e
      cases hd : σ.obj d with
      | none => rw [hd] at e; cases e
      | some od =>
        rw [hd] at e
        cases od <;> try (cases e; done)
        next kn k =>
        dsimp only at e
        obtain ⟨dx, es, ep, I, h2, hm', h3, h4, h5⟩ := inst_at X ho hd h1
        obtain ⟨t1, t2, ⟨attr, t3, t4⟩, _⟩ := T.attr C x hat
        cases hg : getL x kn with
        | none => rw [hg] at e; cases e
        | some u =>
          have : u = a ∧ ∀ y, a ≠ .top y := by
            rw [hg] at e
            cases u <;> (try (cases e; done)) <;> (cases e; exact ⟨rfl, fun y hy => by cases hy⟩)
          obtain ⟨rfl, ht⟩ := this
          obtain ⟨rv, h6, h7⟩ := h5 x _ hg
          exact get_own (s := S z h tk) X.F R.X I t1 t2 t3 t4 h6 (handed h7 ht) (q rv h7)
end
end Mine
namespace Mine
section
variable {prog : Program} {w : World} {K : Frag} {tp : Tp} {sc : Scope} {n : Nat} {σ σ' : St}
theorem same_iff {a b : AK} : a.same b = true ↔ a = b := by
  cases a <;> cases b <;> simp [AK.same, sEq_iff]
theorem same_no {a b : AK} (h : a ≠ b) : a.same b = false := by
  cases e : a.same b with
  | false => rfl
  | true => exact absurd (same_iff.mp e) h
theorem same_self {a : AK} : a.same a = true := same_iff.mpr rfl
theorem getK_putK {k j : AK} {v : AV} : ∀ {l : List (AK × Option AV)}, getK j (putK k v l) = bif j.same k then some (some v) else getK j l
  | [] => by unfold putK getK; rfl
  | (z, u) :: r => by
    unfold putK
    by_cases e : k = z
    · subst e
      simp only [same_self, cond_true, getK]
      by_cases e' : j = k
      · subst e'; simp [same_self]
      · simp [same_no e']
    · simp only [same_no e, cond_false, getK]
      by_cases e' : j = z
      · subst e'
        simp [same_self, same_no (Ne.symm e)]
      · simp only [same_no e', cond_false]
        exact getK_putK
theorem askK_putK {wh : Bool} {k j : AK} {v : AV} {l : List (AK × Option AV)} : askK wh j (putK k v l) = bif j.same k then some (some v) else askK wh j l := by
  unfold askK
  rw [getK_putK]
  cases e : j.same k <;> rfl
theorem vcons {Ky : Type} [DecidableEq Ky] {a j : Ky} {u : Value} {r : List (Ky × Value)} : valueAt ((a, u) :: r) j = if a = j then some u else valueAt r j := by
  unfold valueAt
  by_cases e : a = j
  · simp [e]
  · simp [e]
theorem vmap {Ky : Type} [DecidableEq Ky] {a j : Ky} {v : Value} (e : ¬ a = j) : ∀ {r : List (Ky × Value)}, valueAt (r.map fun kv => if kv.1 = a then (kv.1, v) else kv) j = valueAt r j
  | [] => rfl
  | (b, x) :: r => by
    rw [List.map_cons]
    dsimp only
    by_cases eb : b = a
    · rw [if_pos eb, vcons, vcons, vmap e, eb, if_neg e, if_neg e]
    · rw [if_neg eb, vcons, vcons, vmap e]
theorem vmap_self {Ky : Type} [DecidableEq Ky] {a : Ky} {v : Value} : ∀ {r : List (Ky × Value)}, r.any (fun kv => decide (kv.1 = a)) = true → valueAt (r.map fun kv => if kv.1 = a then (kv.1, v) else kv) a = some v
  | (b, x) :: r, h => by
    rw [List.map_cons]
    dsimp only
    by_cases eb : b = a
    · rw [if_pos eb, vcons, if_pos eb]
    · rw [if_neg eb, vcons, if_neg eb]
      exact vmap_self (by simpa [eb] using h)
theorem vnone {Ky : Type} [DecidableEq Ky] {k : Ky} : ∀ {r : List (Ky × Value)}, ¬ r.any (fun kv => decide (kv.1 = k)) = true → valueAt r k = none
  | [], _ => rfl
  | (b, x) :: r, h => by
    by_cases eb : b = k
    · exact absurd (by simp [eb]) h
    · rw [vcons, if_neg eb]
      exact vnone fun h' => h (by simp [h'])
theorem vapp {Ky : Type} [DecidableEq Ky] {k j : Ky} {v : Value} : ∀ {r : List (Ky × Value)}, valueAt (r ++ [(k, v)]) j = match valueAt r j with | some x => some x | none => if k = j then some v else none
  | [] => by rw [List.nil_append, vcons]; rfl
  | (b, x) :: r => by
    rw [List.cons_append, vcons, vcons]
    by_cases eb : b = j
    · rw [if_pos eb, if_pos eb]
    · rw [if_neg eb, if_neg eb, vapp]
theorem valueAt_stored {Ky : Type} [DecidableEq Ky] {kvs : List (Ky × Value)} {k j : Ky} {v : Value} : valueAt (stored kvs k v) j = if j = k then some v else valueAt kvs j := by
  unfold stored
  split
  · next h =>
    by_cases e : j = k
    · subst e; rw [if_pos rfl]; exact vmap_self h
    · rw [if_neg e]; exact vmap fun x => e x.symm
  · next h =>
    rw [vapp]
    by_cases e : j = k
    · subst e; rw [vnone h, if_pos rfl]
    · have : ¬ k = j := fun x => e x.symm
      rw [if_neg e, if_neg this]
      cases valueAt kvs j <;> rfl
/-- a dict of one kind of keys -/
theorem dict_empty {A B : Type} [DecidableEq A] [DecidableEq B] {ka : KeyKind prog w A} {kb : KeyKind prog w B} {o : Obj} (h : o.IsDictOf ka []) : o.IsDictOf kb [] := by
  obtain ⟨es, ep, h1, h2, h3, h4, h5⟩ := h
  have hl := h4.length
  have he : es = #[] := by
    cases es with
    | mk l => cases l with
      | nil => rfl
      | cons _ _ => cases hl
  subst he
  exact ⟨_, ep, h1, h2, by intro e he; simp at he, by constructor, List.nodup_nil⟩
theorem askD_eq (ik wh : Bool) (kn : List (AK × Option AV)) (n : Nat) (k : AK) : askD (.dict ik wh kn n) k = bif Nat.beq n 0 then some Option.none else bif k.isInt == ik then askK wh k kn else Option.none := rfl
theorem putD_eq (ik wh : Bool) (kn : List (AK × Option AV)) (n : Nat) (k : AK) (v : AV) : putD (.dict ik wh kn n) k v = bif Nat.beq n 0 then some (.dict k.isInt true [(k, some v)] 1) else bif Nat.blt n 900 && (k.isInt == ik) then some (.dict ik wh (putK k v kn) (n + 1)) else Option.none := rfl
theorem nil_of {α : Type} {l : List α} {n : Nat} (h : l.length ≤ n) (e : Nat.beq n 0 = true) : l = [] := by
  have := Nat.eq_of_beq_eq_true e
  subst this
  exact List.length_eq_zero_iff.mp (Nat.le_zero.mp h)
/-- a dict as the state tells of it, asked for a key -/
theorem ask_int {a : Addr} {o : AO} {ob : Obj} {ρ : List Addr} {led : List (Addr × Obj)} {k : Int} {r : Option AV} (h : ORel prog w ρ led a o ob) (e : askD o (.int k) = some r) :
    (a == sysModules) = false ∧ ∃ kvs : List (Int × Value), ob.IsDictOf (intKind prog w) kvs ∧ OptRel ρ r (valueAt kvs k) ∧ ∀ ik wh kn n, o = .dict ik wh kn n → kvs.length ≤ n := by
  cases o <;> try (cases e; done)
  next ik wh kn n =>
  obtain ⟨h1, h2⟩ := h
  refine ⟨h1, ?_⟩
  rw [askD_eq] at e
  cases hn : Nat.beq n 0 with
  | true =>
    rw [hn] at e; cases e
    cases ik with
    | true => obtain ⟨kvs, g1, g2, g3⟩ := h2; cases nil_of g2 hn; exact ⟨[], dict_empty g1, rfl, fun _ _ _ _ _ => Nat.zero_le _⟩
    | false => obtain ⟨kvs, g1, g2, g3⟩ := h2; cases nil_of g2 hn; exact ⟨[], dict_empty g1, rfl, fun _ _ _ _ _ => Nat.zero_le _⟩
  | false =>
    rw [hn, cond_false] at e
    cases ik with
    | true => obtain ⟨kvs, g1, g2, g3⟩ := h2; exact ⟨kvs, g1, g3 k r e, fun _ _ _ _ e => by cases e; exact g2⟩
    | false => cases e
/-- and given a key: what it becomes -/
theorem put_int {a : Addr} {o o' : AO} {ob : Obj} {ρ : List Addr} {led : List (Addr × Obj)} {k : Int} {v : AV} {rv : Value} (h : ORel prog w ρ led a o ob) (e : putD o (.int k) v = some o') (hv : VRel ρ v rv) :
    (a == sysModules) = false ∧ ∃ kvs : List (Int × Value), ob.IsDictOf (intKind prog w) kvs ∧ kvs.length ≤ sizeLine ∧ ∀ ob' led', ob'.IsDictOf (intKind prog w) (stored kvs k rv) → ORel prog w ρ led' a o' ob' := by
  cases o <;> try (cases e; done)
  next ik wh kn n =>
  obtain ⟨h1, h2⟩ := h
  refine ⟨h1, ?_⟩
  rw [putD_eq] at e
  cases hn : Nat.beq n 0 with
  | true =>
    rw [hn, cond_true] at e
    have ho : o' = .dict true true [(.int k, some v)] 1 := by cases e; rfl
    subst ho
    have fin : ∀ ob' led', ob'.IsDictOf (intKind prog w) (stored ([] : List (Int × Value)) k rv) → ORel prog w ρ led' a (.dict true true [(.int k, some v)] 1) ob' := by
      intro ob' led' hd
      refine ⟨h1, _, hd, by simp [stored], fun j r e' => ?_⟩
      rw [valueAt_stored]
      have e2 : (bif (AK.int j).same (.int k) then some (some v) else some Option.none) = some r := by
        rw [← e']; unfold askK getK
        cases (AK.int j).same (.int k) <;> rfl
      by_cases ej : j = k
      · subst ej; rw [same_self, cond_true] at e2; cases e2; rw [if_pos rfl]; exact ⟨rv, rfl, hv⟩
      · have : ¬ AK.int j = AK.int k := fun x => ej (by cases x; rfl)
        rw [same_no this, cond_false] at e2; cases e2; rw [if_neg ej]; rfl
    cases ik with
    | true => obtain ⟨kvs, g1, g2, g3⟩ := h2; cases nil_of g2 hn; exact ⟨[], dict_empty g1, by simp, fin⟩
    | false => obtain ⟨kvs, g1, g2, g3⟩ := h2; cases nil_of g2 hn; exact ⟨[], dict_empty g1, by simp, fin⟩
  | false =>
    rw [hn, cond_false] at e
    cases hb : Nat.blt n 900 with
    | false => rw [hb] at e; cases e
    | true =>
      rw [hb] at e
      have hlt : n < 900 := by
        have : Nat.ble (n + 1) 900 = true := hb
        exact Nat.le_of_ble_eq_true this
      cases ik with
      | false => cases e
      | true =>
        cases e
        obtain ⟨kvs, g1, g2, g3⟩ := h2
        refine ⟨kvs, g1, by unfold sizeLine; omega, fun ob' led' hd => ⟨h1, _, hd, ?_, fun j r e' => ?_⟩⟩
        · have := stored_length_le kvs k rv; omega
        · rw [valueAt_stored]
          rw [askK_putK] at e'
          by_cases ej : j = k
          · subst ej; rw [same_self, cond_true] at e'; cases e'; rw [if_pos rfl]; exact ⟨rv, rfl, hv⟩
          · have : ¬ AK.int j = AK.int k := fun x => ej (by cases x; rfl)
            rw [same_no this, cond_false] at e'; rw [if_neg ej]; exact g3 j r e'
/-- a dict as the state tells of it, asked for a key -/
theorem ask_str {a : Addr} {o : AO} {ob : Obj} {ρ : List Addr} {led : List (Addr × Obj)} {k : Str} {r : Option AV} (h : ORel prog w ρ led a o ob) (e : askD o (.str k) = some r) :
    (a == sysModules) = false ∧ ∃ kvs : List (Str × Value), ob.IsDictOf (PySem.strKind prog w) kvs ∧ OptRel ρ r (valueAt kvs k) ∧ ∀ ik wh kn n, o = .dict ik wh kn n → kvs.length ≤ n := by
  cases o <;> try (cases e; done)
  next ik wh kn n =>
  obtain ⟨h1, h2⟩ := h
  refine ⟨h1, ?_⟩
  rw [askD_eq] at e
  cases hn : Nat.beq n 0 with
  | true =>
    rw [hn] at e; cases e
    cases ik with
    | true => obtain ⟨kvs, g1, g2, g3⟩ := h2; cases nil_of g2 hn; exact ⟨[], dict_empty g1, rfl, fun _ _ _ _ _ => Nat.zero_le _⟩
    | false => obtain ⟨kvs, g1, g2, g3⟩ := h2; cases nil_of g2 hn; exact ⟨[], dict_empty g1, rfl, fun _ _ _ _ _ => Nat.zero_le _⟩
  | false =>
    rw [hn, cond_false] at e
    cases ik with
    | false => obtain ⟨kvs, g1, g2, g3⟩ := h2; exact ⟨kvs, g1, g3 k r e, fun _ _ _ _ e => by cases e; exact g2⟩
    | true => cases e
/-- and given a key: what it becomes -/
theorem put_str {a : Addr} {o o' : AO} {ob : Obj} {ρ : List Addr} {led : List (Addr × Obj)} {k : Str} {v : AV} {rv : Value} (h : ORel prog w ρ led a o ob) (e : putD o (.str k) v = some o') (hv : VRel ρ v rv) :
    (a == sysModules) = false ∧ ∃ kvs : List (Str × Value), ob.IsDictOf (PySem.strKind prog w) kvs ∧ kvs.length ≤ sizeLine ∧ ∀ ob' led', ob'.IsDictOf (PySem.strKind prog w) (stored kvs k rv) → ORel prog w ρ led' a o' ob' := by
  cases o <;> try (cases e; done)
  next ik wh kn n =>
  obtain ⟨h1, h2⟩ := h
  refine ⟨h1, ?_⟩
  rw [putD_eq] at e
  cases hn : Nat.beq n 0 with
  | true =>
    rw [hn, cond_true] at e
    have ho : o' = .dict false true [(.str k, some v)] 1 := by cases e; rfl
    subst ho
    have fin : ∀ ob' led', ob'.IsDictOf (PySem.strKind prog w) (stored ([] : List (Str × Value)) k rv) → ORel prog w ρ led' a (.dict false true [(.str k, some v)] 1) ob' := by
      intro ob' led' hd
      refine ⟨h1, _, hd, by simp [stored], fun j r e' => ?_⟩
      rw [valueAt_stored]
      have e2 : (bif (AK.str j).same (.str k) then some (some v) else some Option.none) = some r := by
        rw [← e']; unfold askK getK
        cases (AK.str j).same (.str k) <;> rfl
      by_cases ej : j = k
      · subst ej; rw [same_self, cond_true] at e2; cases e2; rw [if_pos rfl]; exact ⟨rv, rfl, hv⟩
      · have : ¬ AK.str j = AK.str k := fun x => ej (by cases x; rfl)
        rw [same_no this, cond_false] at e2; cases e2; rw [if_neg ej]; rfl
    cases ik with
    | true => obtain ⟨kvs, g1, g2, g3⟩ := h2; cases nil_of g2 hn; exact ⟨[], dict_empty g1, by simp, fin⟩
    | false => obtain ⟨kvs, g1, g2, g3⟩ := h2; cases nil_of g2 hn; exact ⟨[], dict_empty g1, by simp, fin⟩
  | false =>
    rw [hn, cond_false] at e
    cases hb : Nat.blt n 900 with
    | false => rw [hb] at e; cases e
    | true =>
      rw [hb] at e
      have hlt : n < 900 := by
        have : Nat.ble (n + 1) 900 = true := hb
        exact Nat.le_of_ble_eq_true this
      cases ik with
      | true => cases e
      | false =>
        cases e
        obtain ⟨kvs, g1, g2, g3⟩ := h2
        refine ⟨kvs, g1, by unfold sizeLine; omega, fun ob' led' hd => ⟨h1, _, hd, ?_, fun j r e' => ?_⟩⟩
        · have := stored_length_le kvs k rv; omega
        · rw [valueAt_stored]
          rw [askK_putK] at e'
          by_cases ej : j = k
          · subst ej; rw [same_self, cond_true] at e'; cases e'; rw [if_pos rfl]; exact ⟨rv, rfl, hv⟩
          · have : ¬ AK.str j = AK.str k := fun x => ej (by cases x; rfl)
            rw [same_no this, cond_false] at e'; rw [if_neg ej]; exact g3 j r e'
end
end Mine
namespace Mine
section
variable {prog : Program} {w : World} {K : Frag} {tp : Tp} {sc : Scope} {n : Nat} {σ σ' : St}
  {A₀ A : Around} {base h₀ : Heap} {outer : List Env} {fenv env : Env} {L : Addr} {m : Str → Option Value} {ρ : List Addr} {led : List (Addr × Obj)} {h : Heap} {tk : Nat} {z : Shared} {E : Value → Shared → Prop}
theorem strs_any {x : Str} {t : Tok} : ∀ {vs : List Value} {l : List Str}, strsOf vs l → (vs.any fun v => match v with | .str y _ => y.cps.toList == x.cps.toList | _ => false) = l.any fun y => y.cps.toList == x.cps.toList
  | [], [], _ => rfl
  | .str y _ :: r, z :: q, ⟨e, h⟩ => by
    subst e
    rw [List.any_cons, List.any_cons, strs_any (t := t) h]
theorem strs_all : ∀ {vs : List Value} {l : List Str}, strsOf vs l → ∀ v ∈ vs, ∃ y t, v = .str y t
  | [], [], _, v, hv => nomatch hv
  | .str y t :: r, z :: q, ⟨e, h⟩, v, hv => by
    rcases List.mem_cons.mp hv with rfl | hv
    · exact ⟨y, t, rfl⟩
    · exact strs_all h v hv
theorem toD_rel {ρ : List Addr} {a : AV} {v : Value} {d : PyData} (h : VRel ρ a v) (e : toD a = some d) : Carried v d := by
  cases a <;> (try (cases e; done))
  · cases e; cases h; exact .none
  · cases e; cases h; exact .bool _
  · cases e; obtain ⟨t, rfl⟩ := h; exact .int _ _
  · cases e; obtain ⟨t, rfl⟩ := h; exact .str _ _
theorem toDs_rel {ρ : List Addr} : ∀ {as : List AV} {vs : List Value} {ds : List PyData}, LRel ρ as vs → toDs as = some ds → CarriedAll vs ds
  | [], [], ds, _, e => by cases e; exact .nil
  | a :: r, v :: q, ds, ⟨h1, h2⟩, e => by
    unfold toDs at e
    cases hd : toD a with
    | none => rw [hd] at e; cases e
    | some d =>
      rw [hd] at e
      dsimp only at e
      cases hr : toDs r with
      | none => rw [hr] at e; cases e
      | some ds' =>
        rw [hr] at e
        cases e
        exact .cons (toD_rel h1 hd) (toDs_rel h2 hr)
theorem tup_at {a : Addr} {its : Array Value} (N : News h₀ L h led) (hm : (a, ({ cls := .type "tuple", data := .seq its } : Obj)) ∈ led) : IsTup h a its := ⟨_, (N _ hm).1, rfl, 0, rfl⟩
theorem list_at {a : Addr} {its : Array Value} {ep : Nat} (N : News h₀ L h led) (hm : (a, W.listOf its ep) ∈ led) : h.IsList a its := ⟨_, (N _ hm).1, rfl, ep, rfl⟩
theorem prel_nil {xs : List Value} (hl : xs.length = ([] : List AV).length) : xs = [] := List.length_eq_zero_iff.mp hl
/-- a comparison -/
theorem snd_cmp (T : TpOK prog K tp) {op : CmpOp} {a b : AV} {va vb : Value} {t : Bool} (e : cmp tp σ op a b = some t) {Q : Value → Shared → Prop}
    (R : Room K A₀ A base h₀ outer fenv env L sc n) (X : Rel prog w h₀ L env σ ρ m led h) (ha : VRel ρ a va) (hb : VRel ρ b vb)
    (q : ∀ k, Q (.bool t) (S z h k)) : wpAny (model prog w) A (compareOp op va vb) Q E (S z h tk) := by
  have hu : A.units + 64 < cLine := by have := R.units; omega
  cases op with
  | Is =>
    unfold cmp at e
    dsimp only at e
    split at e
    · cases e
    · next hne =>
      cases e; cases hb
      cases a with
      | none => cases ha; exact is_none_none (q _)
      | bool b => cases ha; exact is_bool_none (q _)
      | int i => obtain ⟨_, rfl⟩ := ha; exact is_int_none (q _)
      | str x => obtain ⟨_, rfl⟩ := ha; exact is_str_none (q _)
      | ref i => obtain ⟨_, _, rfl⟩ := ha; exact is_ref_none (q _)
      | top v => exact (hne v rfl).elim
    · cases e
  | IsNot =>
    unfold cmp at e
    dsimp only at e
    split at e
    · cases e
    · next hne =>
      cases e; cases hb
      cases a with
      | none => cases ha; exact isnot_none_none (q _)
      | bool b => cases ha; exact isnot_bool_none (q _)
      | int i => obtain ⟨_, rfl⟩ := ha; exact isnot_int_none (q _)
      | str x => obtain ⟨_, rfl⟩ := ha; exact isnot_str_none (q _)
      | ref i => obtain ⟨_, _, rfl⟩ := ha; exact isnot_ref_none (q _)
      | top v => exact (hne v rfl).elim
    · cases e
  | Eq =>
    unfold cmp at e
    dsimp only at e
    split at e
    · cases e; obtain ⟨_, rfl⟩ := ha; obtain ⟨_, rfl⟩ := hb; exact PySem.P.eq_int (q _)
    · cases e; obtain ⟨_, rfl⟩ := ha; obtain ⟨_, rfl⟩ := hb; exact PySem.P.eq_str (q _)
    · cases e; cases ha; cases hb; exact eq_bool (q _)
    · cases e; cases ha; obtain ⟨_, rfl⟩ := hb; exact PySem.EqNone.eq_none_str (q _)
    · cases e
  | NotEq =>
    unfold cmp at e
    dsimp only at e
    split at e
    · cases e; obtain ⟨_, rfl⟩ := ha; obtain ⟨_, rfl⟩ := hb; exact PySem.P.ne_int (q _)
    · cases e; obtain ⟨_, rfl⟩ := ha; obtain ⟨_, rfl⟩ := hb; exact PySem.P.ne_str (q _)
    · next i j =>
      obtain ⟨ra, h1, rfl⟩ := ha
      obtain ⟨rb, h2, rfl⟩ := hb
      split at e
      · next n1 n2 ho1 ho2 =>
        cases e
        obtain ⟨ob, hm, its, ep, rfl, _, _, g4⟩ := X.obj ho1 h1
        obtain ⟨ob', hm', its', ep', rfl, _, _, g4'⟩ := X.obj ho2 h2
        have e1 : its = ([] : List Value).toArray := by
          have := g4 rfl
          cases its with
          | mk l => cases l with
            | nil => rfl
            | cons _ _ => cases this
        have e2 : its' = ([] : List Value).toArray := by
          have := g4' rfl
          cases its' with
          | mk l => cases l with
            | nil => rfl
            | cons _ _ => cases this
        subst e1 e2
        exact ne_dataH_same (reads_newData (ds := []) (list_at X.N hm) .nil) (reads_newData (ds := []) (list_at X.N hm') .nil) (by decide +kernel) (by decide +kernel) hu (by decide +kernel) (q _)
      · next xs ys ho1 ho2 =>
        obtain ⟨ob, hm, its, rfl, g1⟩ := X.obj ho1 h1
        obtain ⟨ob', hm', its', rfl, g1'⟩ := X.obj ho2 h2
        cases hd : toDs xs with
        | none => rw [hd] at e; cases e
        | some ds =>
          cases hd' : toDs ys with
          | none => rw [hd, hd'] at e; cases e
          | some es =>
            rw [hd, hd'] at e
            dsimp only at e
            unfold neT at e
            cases hc : (SeqAt.shaped (.tuple ds) && SeqAt.shaped (.tuple es) && SeqAt.noMix (.tuple ds) (.tuple es)) with
            | false => rw [hc] at e; cases e
            | true =>
              rw [hc] at e; cases e
              simp only [Bool.and_eq_true] at hc
              exact ne_dataH_same (reads_newDataT (ds := ds) (by have := tup_at X.N hm; simpa using this) (toDs_rel g1 hd)) (reads_newDataT (ds := es) (by have := tup_at X.N hm'; simpa using this) (toDs_rel g1' hd')) hc.1.1 hc.1.2 hu hc.2 (q _)
      · cases e
    · cases e
  | Gt =>
    unfold cmp at e
    dsimp only at e
    split at e
    · cases e; obtain ⟨_, rfl⟩ := ha; obtain ⟨_, rfl⟩ := hb; exact PySem.P.gt_int (q _)
    · cases e
  | In =>
    unfold cmp at e
    dsimp only at e
    split at e
    · cases e; obtain ⟨_, rfl⟩ := ha; obtain ⟨_, rfl⟩ := hb; exact PySem.P.in_str (q _)
    · next x ta =>
      obtain ⟨tx, rfl⟩ := ha; cases hb
      cases hl : tp.tups ta with
      | none => rw [hl] at e; cases e
      | some l =>
        rw [hl] at e; cases e
        obtain ⟨ob, items, k, h1, h2, h3, h4⟩ := T.tups ta l hl
        refine PySem.SeqAt.in_tupleAt (items := items) (fun v => match v with | .str y _ => y.cps.toList == x.cps.toList | _ => false) ⟨ob, X.F.keep _ _ (R.X _ _ h1), h2, k, h3⟩ ?_ ?_
        · intro y hy
          obtain ⟨s, u, rfl⟩ := strs_all h4 y (by simpa using hy)
          exact (PySem.SeqRoads2.EqGives.str s x u tx).at _ _
        · rw [← Array.any_toList, strs_any (t := tx) h4]; exact q _
    · cases e
  | NotIn =>
    unfold cmp at e
    dsimp only at e
    split at e
    rotate_left
    · next k d =>
      obtain ⟨tx, rfl⟩ := ha
      obtain ⟨rd, h1, rfl⟩ := hb
      cases ho : σ.obj d with
      | none => rw [ho] at e; cases e
      | some o =>
        rw [ho] at e
        dsimp only at e
        cases hk : askD o (.int k) with
        | none => rw [hk] at e; cases e
        | some r =>
          rw [hk] at e; cases e
          obtain ⟨ob, hm, g⟩ := X.obj ho h1
          obtain ⟨lo, kvs, g1, g2, _⟩ := ask_int g hk
          refine kdg_notin (knd := intKind prog w) (k := k) X.N hm g1 lo (by simp [intKind, Value.isInt]) r.isSome ?_ (q _)
          cases r with
          | none => rw [g2]; rfl
          | some v => obtain ⟨rv, g3, _⟩ := g2; rw [g3]; rfl
    · cases e
    · next x ta =>
      obtain ⟨tx, rfl⟩ := ha; cases hb
      cases hl : tp.tups ta with
      | none => rw [hl] at e; cases e
      | some l =>
        rw [hl] at e; cases e
        obtain ⟨ob, items, k, h1, h2, h3, h4⟩ := T.tups ta l hl
        refine PySem.SeqAt.notIn_tupleAt (items := items) (fun v => match v with | .str y _ => y.cps.toList == x.cps.toList | _ => false) ⟨ob, X.F.keep _ _ (R.X _ _ h1), h2, k, h3⟩ ?_ ?_
        · intro y hy
          obtain ⟨s, u, rfl⟩ := strs_all h4 y (by simpa using hy)
          exact (PySem.SeqRoads2.EqGives.str s x u tx).at _ _
        · rw [← Array.any_toList, strs_any (t := tx) h4]; exact q _
  | _ => cases e
end
end Mine
namespace Mine
section
variable {prog : Program} {w : World} {K : Frag} {tp : Tp} {sc : Scope} {n : Nat} {σ σ' : St}
  {A₀ A : Around} {base h₀ : Heap} {outer : List Env} {fenv env : Env} {L : Addr} {m : Str → Option Value} {ρ : List Addr} {led : List (Addr × Obj)} {h : Heap} {tk : Nat} {z : Shared} {E : Value → Shared → Prop}
theorem isStr_self {x : Str} {t : Tok} : (Value.str x t).isStr x = true := by simp [Value.isStr]
theorem refKey_str {hh : Int} {x : Str} {t : Tok} {v : Value} : DictEntry.refKey ⟨hh, .str x t, v⟩ = false := rfl
theorem putL_ref {x : Str} {hh : Int} {t : Tok} {v : Value} : ∀ {es : List DictEntry}, es.any (·.refKey) = false → (W.putL x hh (.str x t) v es).any (·.refKey) = false
  | [], _ => rfl
  | e :: r, h => by
    rw [List.any_cons, Bool.or_eq_false_iff] at h
    unfold W.putL
    split
    · rw [List.any_cons, Bool.or_eq_false_iff]; exact ⟨h.1, h.2⟩
    · rw [List.any_cons, Bool.or_eq_false_iff]; exact ⟨h.1, putL_ref h.2⟩
theorem putL_len {x : Str} {hh : Int} {k v : Value} : ∀ {es : List DictEntry}, (W.putL x hh k v es).length ≤ es.length + 1
  | [] => by simp [W.putL]
  | e :: r => by
    unfold W.putL
    split
    · simp
    · simp only [List.length_cons]; have := putL_len (x := x) (hh := hh) (k := k) (v := v) (es := r); omega
theorem putL_find {x y : Str} {hh : Int} {t : Tok} {v : Value} : ∀ {es : List DictEntry}, ((W.putL x hh (.str x t) v es).find? (·.key.isStr y)).map (·.val) = if y = x then some v else (es.find? (·.key.isStr y)).map (·.val)
  | [] => by
    unfold W.putL
    by_cases e : y = x
    · subst e; simp [isStr_self]
    · have : (Value.str x t).isStr y = false := by
        cases hq : (Value.str x t).isStr y with
        | false => rfl
        | true => exact absurd (Value.isStr_inj _ _ _ hq isStr_self) e
      simp [this, e]
  | q :: r => by
    unfold W.putL
    by_cases hq : q.key.isStr x = true
    · rw [if_pos hq]
      by_cases e : y = x
      · subst e; simp [hq]
      · have : q.key.isStr y = false := by
          cases hy : q.key.isStr y with
          | false => rfl
          | true => exact absurd (Value.isStr_inj _ _ _ hy hq) e
        simp [this, e]
    · rw [if_neg hq]
      by_cases hy : q.key.isStr y = true
      · have e : ¬ y = x := fun e => hq (e ▸ hy)
        simp [hy, e]
      · have hy' : q.key.isStr y = false := by simpa using hy
        rw [List.find?_cons, List.find?_cons, hy']
        exact putL_find
theorem wgetL {x : Str} {es : List DictEntry} (h : es.any (·.refKey) = false) : W.getL x es = some ((es.find? (·.key.isStr x)).map (·.val)) := by
  unfold W.getL
  cases es.find? (·.key.isStr x) with
  | none => simp [h]
  | some e => rfl
theorem snd_setAttr (T : TpOK prog K tp) {o a : AV} {ov v : Value} {x : Str} (e : setAttr tp σ o x a = some σ') {Q : Unit → Shared → Prop}
    (R : Room K A₀ A base h₀ outer fenv env L sc n) (X : Rel prog w h₀ L env σ ρ m led h) (hv : VRel ρ o ov) (hw : VRel ρ a v)
    (q : ∀ ρ' m' led' h' tk', To prog w h₀ L env σ ρ m led σ' ρ' m' led' h' → Q () (S z h' tk')) : wpAny (model prog w) A (PySem.setAttr ov x v) Q E (S z h tk) := by
  unfold setAttr at e
  cases o <;> try (cases e; done)
  next i =>
  obtain ⟨ra, h1, rfl⟩ := hv
  dsimp only at e
  cases ho : σ.obj i with
  | none => rw [ho] at e; cases e
  | some ob =>
    rw [ho] at e
    cases ob <;> try (cases e; done)
    next C d =>
    dsimp only at e
    cases hat : (tp.attrs C).any (sEqB x) with
    | false => rw [hat] at e; cases e
    | true =>
      rw [hat, cond_true] at e
      cases hd : σ.obj d with
      | none => rw [hd] at e; cases e
      | some od =>
        rw [hd] at e
        cases od <;> try (cases e; done)
        next kn k =>
        dsimp only at e
        cases hb : Nat.blt k 900 with
        | false => rw [hb] at e; cases e
        | true =>
          rw [hb] at e
          cases e
          have hlt : k < 900 := by
            have : Nat.ble (k + 1) 900 = true := hb
            exact Nat.le_of_ble_eq_true this
          obtain ⟨dx, es, ep, I, h2, hm', h3, h4, h5⟩ := inst_at X ho hd h1
          obtain ⟨t1, t2, _, t5, t6, t7⟩ := T.attr C x hat
          refine set_dict (s := S z h tk) X.F R.X X.N I rfl t5 t6 t7 t2 (by rw [wgetL h4]; rfl) rfl (upd_of _ X.nd hm') ?_ fun h' F' N' => ?_
          · exact Nat.le_trans putL_len (by omega)
          · refine q ρ m _ h' _ (X.put hd h2 hm' F' N' fun _ => ⟨_, _, rfl, ?_, putL_ref h4, fun y u hy => ?_⟩)
            · exact Nat.le_trans putL_len (by omega)
            · rw [wgetL (putL_ref h4), putL_find]
              rw [getL_putL] at hy
              by_cases ey : y = x
              · rw [if_pos ey] at hy ⊢; cases hy; exact ⟨v, rfl, hw⟩
              · rw [if_neg ey] at hy ⊢
                obtain ⟨rv, g1, g2⟩ := h5 y u hy
                rw [wgetL h4] at g1
                exact ⟨rv, g1, g2⟩
theorem prel_get : ∀ {xs : List AV} {vs : List Value} {j : Nat} {a : AV}, PRel ρ xs vs → xs[j]? = some a → ∃ v, vs[j]? = some v ∧ VRel ρ a v
  | a :: r, v :: q, 0, b, ⟨h1, _⟩, e => by cases e; exact ⟨v, rfl, h1⟩
  | a :: r, v :: q, j + 1, b, ⟨_, h2⟩, e => by
    have : r[j]? = some b := by simpa using e
    obtain ⟨u, g1, g2⟩ := prel_get h2 this
    exact ⟨u, by simpa using g1, g2⟩
theorem lrel_prel : ∀ {xs : List AV} {vs : List Value}, LRel ρ xs vs → PRel ρ xs vs
  | [], _, _ => by unfold PRel; trivial
  | _ :: _, _ :: _, ⟨h1, h2⟩ => ⟨h1, lrel_prel h2⟩
theorem lrel_len : ∀ {xs : List AV} {vs : List Value}, LRel ρ xs vs → vs.length = xs.length
  | [], [], _ => rfl
  | _ :: _, _ :: _, ⟨_, h2⟩ => by simp [lrel_len h2]
/-- an item is read -/
theorem snd_item {o i a : AV} {ov iv : Value} (e : itemAt tp σ o i = some a) {value slice : PySem.Expr} {Q : Value → Shared → Prop}
    (X : Rel prog w h₀ L env σ ρ m led h) (ho : VRel ρ o ov) (hi : VRel ρ i iv) (hsl : ∀ o i, subscripted slice false o i = operate [o, i] (PySem.getItem o i))
    (q : ∀ v tk', VRel ρ a v → Q v (S z h tk')) : wpAny (model prog w) A (subscriptTail value slice ov iv) Q E (S z h tk) := by
  unfold itemAt at e
  cases o <;> cases i <;> (try (cases e; done))
  · next x k =>
    obtain ⟨t, rfl⟩ := ho
    obtain ⟨u, rfl⟩ := hi
    dsimp only at e
    unfold charAt at e
    cases hc : (fitsSsize k && (PySem.Txt.charAt x k).isSome) with
    | false => rw [hc] at e; cases e
    | true =>
      rw [hc] at e; cases e
      rw [Bool.and_eq_true] at hc
      exact tail_any (typeIs_str _ x t) slot_str_getitem.lookup (PySem.SB.getItem hc.1 hc.2 (q _ _ ⟨_, rfl⟩)) (hsl _ _)
  · next r k =>
    obtain ⟨ra, h1, rfl⟩ := ho
    obtain ⟨u, rfl⟩ := hi
    dsimp only at e
    cases hr : σ.obj r with
    | none => rw [hr] at e; cases e
    | some ob =>
      rw [hr] at e
      obtain ⟨ro, hm, g⟩ := X.obj hr h1
      cases ob with
      | list xs wh k' =>
        dsimp only at e
        cases hc : (decide (0 ≤ k) && decide (k < 1000)) with
        | false => rw [hc] at e; cases e
        | true =>
          rw [hc, cond_true] at e
          rw [Bool.and_eq_true] at hc
          have h0 := of_decide_eq_true hc.1
          have h9 := of_decide_eq_true hc.2
          obtain ⟨its, ep, rfl, _, g3, _⟩ := g
          obtain ⟨v, g4, g5⟩ := prel_get g3 e
          have hl := list_at X.N hm
          exact tail_any hl.typeIs slot_list_getitem.lookup (wpAny_getItem_list hl h0 (by omega) (by simpa using g4) (q _ _ g5)) (hsl _ _)
      | tup xs =>
        dsimp only at e
        cases hc : (decide (0 ≤ k) && decide (k < 1000)) with
        | false => rw [hc] at e; cases e
        | true =>
          rw [hc, cond_true] at e
          rw [Bool.and_eq_true] at hc
          have h0 := of_decide_eq_true hc.1
          have h9 := of_decide_eq_true hc.2
          obtain ⟨its, rfl, g3⟩ := g
          obtain ⟨v, g4, g5⟩ := prel_get (lrel_prel g3) e
          have hl := tup_at X.N hm
          have g4' : its[k.toNat]? = some v := by simpa using g4
          have hlt : k.toNat < its.size := by
            obtain ⟨q, _⟩ := Array.getElem?_eq_some_iff.mp g4'; exact q
          have hj : seqIndex? k its.size = some k.toNat := by
            have h1 : ¬ k < 0 := by omega
            have h2 : k < (its.size : Int) := by omega
            unfold seqIndex?
            simp [h1, h0, h2]
          exact tail_any hl.typeIs slot_tuple_getitem.lookup (getItem_tuple hl (by omega) (by omega) hj g4' (q _ _ g5)) (hsl _ _)
      | _ =>
        dsimp only at e
        cases hk : askD _ (.int k) with
        | none => rw [hk] at e; cases e
        | some r =>
          rw [hk] at e
          cases r with
          | none => cases e
          | some v' =>
            cases e
            obtain ⟨lo, kvs, g1, ⟨rv, g2, g3⟩, _⟩ := ask_int g hk
            have hd : (S z h tk).heap.DictOf (intKind prog w) ra kvs := kda_dict X.N hm g1
            exact tail_any hd.typeIs slot_dict_getitem.lookup (kdt_getItem (knd := intKind prog w) (k := k) X.N hm g1 (by simp [intKind, Value.isInt]) g2 (q _ _ g3)) (hsl _ _)
theorem seq_list_iadd : seqSlot? (.type "list") (dunderI "add") = pure (some (.builtin "list.__iadd__")) := PySem.seqSlot_of PySem.F.slot_list_iadd.lookup (by decide +kernel)
theorem fills_list_iadd : fillsInplaceSlot (.type "list") "add" (Operator.Add == .Add) = pure false := by
  unfold fillsInplaceSlot
  show (typeLookup (.type "list") (dunderI "add") >>= fun fi => pure (fi.isSome && !isSeqSlot fi)) = pure false
  rw [PySem.F.slot_list_iadd.lookup]
  show (pure _ : Sem Bool) = pure false
  congr 1
theorem iadd_lists {a b : Value} {s : Shared} {Q : Value → Shared → Prop} (ha : s.TypeIs a "list") (hb : s.TypeIs b "list") (hc : wpAny (model prog w) A (call (.builtin "list.__iadd__") [a, b]) Q E s) : wpAny (model prog w) A (inplaceOp .Add a b) Q E s := by
  unfold inplaceOp
  refine wpAny_holding ?_
  refine wpAny_bind (wpAny_typeOf ha (wpAny_bind (wpAny_of_eq fills_list_iadd ?_)))
  show wpAny _ A (if false = true then _ else _) Q E s
  rw [if_neg Bool.false_ne_true]
  refine wpAny_bind (wpAny_binaryOp1_none (nm := "add") ha hb noFill_list_add ?_)
  refine wpAny_bind (wpAny_of_eq seq_list_iadd ?_)
  exact wpAny_bind (wpAny_rule hc)
theorem prel_app : ∀ {xs ys : List AV} {vs us : List Value}, PRel ρ xs vs → vs.length = xs.length → PRel ρ ys us → PRel ρ (xs ++ ys) (vs ++ us)
  | [], ys, [], us, _, _, h => h
  | a :: r, ys, v :: q, us, ⟨h1, h2⟩, hl, h => ⟨h1, prel_app h2 (by simpa using hl) h⟩
/-- a list is made longer in its place -/
theorem ext_rel {i j k k' : Nat} {xs ys : List AV} {ra rb : Addr} (X : Rel prog w h₀ L env σ ρ m led h) (ho1 : σ.obj i = some (.list xs true k)) (h1 : ρ[i]? = some ra) (ho2 : σ.obj j = some (.list ys true k')) (h2 : ρ[j]? = some rb) (hs : k + k' < 900) :
    ∃ its ep its2 ep2, (ra, W.listOf its ep) ∈ led ∧ (rb, W.listOf its2 ep2) ∈ led ∧ its.size ≤ k ∧ its2.size ≤ k' ∧
      ∃ ob', To prog w h₀ L env σ ρ m led (σ.set i (.list (xs ++ ys) true (k + k'))) ρ m (setN ra ob' led) (h.update ra (Obj.mapSeq fun x => x ++ its2)) := by
  obtain ⟨ob, hm, its, ep, rfl, g2, g3, g4⟩ := X.obj ho1 h1
  obtain ⟨ob', hm', its2, ep2, rfl, g2', g3', g4'⟩ := X.obj ho2 h2
  refine ⟨its, ep, its2, ep2, hm, hm', g2, g2', ?_⟩
  have hu := IsL.update (h := h) (l := ra) (items := its) (n := ep) (X.N _ hm).1 (fun x => x ++ its2)
  have hsb : Heap.SameBut ra h (h.update ra (Obj.mapSeq fun x => x ++ its2)) := Heap.SameBut.update ..
  refine ⟨_, X.put ho1 h1 hm (X.F.change hsb (X.N _ hm).2.1 (X.N _ hm).2.2) (news_setN X.nd X.N hm hsb hu) fun _ => ⟨_, _, rfl, ?_, ?_, fun _ => ?_⟩⟩
  · rw [Array.size_append]; omega
  · rw [Array.toList_append]
    exact prel_app g3 (by rw [Array.length_toList]; exact g4 rfl) g3'
  · rw [Array.size_append, g4 rfl, g4' rfl, List.length_append]
theorem not_long {a b k k' : Nat} {its : Array Value} (h1 : a ≤ k) (h2 : b ≤ k') (h : k + k' < 900) : ¬(!its.isEmpty && Builtin.List.listTooLong (a + b)) = true := by
  have : Builtin.List.listTooLong (a + b) = false := by
    unfold Builtin.List.listTooLong sizeLine
    simp; omega
  rw [this, Bool.and_false]; exact Bool.false_ne_true
theorem blt_lt {a b : Nat} (h : Nat.blt a b = true) : a < b := by
  have : Nat.ble (a + 1) b = true := h
  exact Nat.le_of_ble_eq_true this
theorem snd_inpl {op : Operator} {a b c : AV} {va vb : Value} (e : inpl σ op a b = some (c, σ')) {Q : Value → Shared → Prop}
    (X : Rel prog w h₀ L env σ ρ m led h) (ha : VRel ρ a va) (hb : VRel ρ b vb)
    (q : ∀ ρ' m' led' h' tk' v, To prog w h₀ L env σ ρ m led σ' ρ' m' led' h' → VRel ρ' c v → Q v (S z h' tk')) : wpAny (model prog w) A (inplaceOp op va vb) Q E (S z h tk) := by
  unfold inpl at e
  split at e
  · cases e
    obtain ⟨_, rfl⟩ := ha; obtain ⟨_, rfl⟩ := hb
    exact PySem.P.iadd_int (q _ _ _ _ _ _ (To.refl X) ⟨_, rfl⟩)
  · next i j =>
    obtain ⟨ra, h1, rfl⟩ := ha
    obtain ⟨rb, h2, rfl⟩ := hb
    split at e
    · next xs k ys k' ho1 ho2 =>
      cases hb : Nat.blt (k + k') 900 with
      | false => rw [hb] at e; cases e
      | true =>
        rw [hb, cond_true] at e
        cases hij : Nat.beq i j with
        | true => rw [hij] at e; cases e
        | false =>
          rw [hij] at e; cases e
          obtain ⟨its, ep, its2, ep2, m1, m2, l1, l2, ob', TT⟩ := ext_rel X ho1 h1 ho2 h2 (blt_lt hb)
          have hlt := blt_lt hb
          refine iadd_lists (list_at X.N m1).typeIs (list_at X.N m2).typeIs ?_
          exact call_meets PySem.F.slot_list_iadd (list_at X.N m1).typeIs PySem.F.entry_list_iadd (PySem.F.args_list_iadd_2 _ _) (PySem.AutoSeq1.list___iadd___list_list_0 ra its ep rb its2 ep2 (not_long l1 l2 hlt) (by unfold sizeLine; omega) (by unfold sizeLine; omega)) ⟨(X.N _ m1).1, (X.N _ m2).1, q _ _ _ _ _ _ TT ⟨ra, h1, rfl⟩⟩
    · cases e
  · cases e
theorem lt_size (X : Rel prog w h₀ L env σ ρ m led h) : ∀ p ∈ led, p.1 < h.objs.size := fun p hp => Heap.lt_size (X.N p hp).1
theorem snd_bin {op : Operator} {a b c : AV} {va vb : Value} (e : bin σ op a b = some (c, σ')) {Q : Value → Shared → Prop}
    (X : Rel prog w h₀ L env σ ρ m led h) (ha : VRel ρ a va) (hb : VRel ρ b vb)
    (q : ∀ ρ' m' led' h' tk' v, To prog w h₀ L env σ ρ m led σ' ρ' m' led' h' → VRel ρ' c v → Q v (S z h' tk')) : wpAny (model prog w) A (binaryOp op va vb) Q E (S z h tk) := by
  unfold bin at e
  split at e
  · cases e
    obtain ⟨_, rfl⟩ := ha; obtain ⟨_, rfl⟩ := hb
    exact PySem.P.add_int (q _ _ _ _ _ _ (To.refl X) ⟨_, rfl⟩)
  · next i j =>
    obtain ⟨ra, h1, rfl⟩ := ha
    obtain ⟨rb, h2, rfl⟩ := hb
    split at e
    · next xs k ys k' ho1 ho2 =>
      cases hb : Nat.blt (k + k') 900 with
      | false => rw [hb] at e; cases e
      | true =>
        rw [hb, cond_true] at e
        cases e
        have hlt := blt_lt hb
        obtain ⟨ob, hm, its, ep, rfl, g2, g3, g4⟩ := X.obj ho1 h1
        obtain ⟨ob', hm', its2, ep2, rfl, g2', g3', g4'⟩ := X.obj ho2 h2
        refine add_arrays (s := S z h tk) (hsz := by unfold sizeLine; omega) X.F X.N (list_at X.N hm) (list_at X.N hm') fun h' F' N' => ?_
        refine q _ _ _ _ _ _ (X.add F' N' (lt_size X) ⟨_, _, rfl, ?_, ?_, fun _ => ?_⟩) ⟨_, last_rho X, rfl⟩
        · rw [List.size_toArray, List.length_append, Array.length_toList, Array.length_toList]; omega
        · exact (prel_app g3 (by rw [Array.length_toList]; exact g4 rfl) g3').mono
        · rw [List.size_toArray, List.length_append, Array.length_toList, Array.length_toList, g4 rfl, g4' rfl, List.length_append]
    · cases e
  · cases e
end
end Mine
namespace Mine
noncomputable def FRel (ρ : List Addr) : Fl → Flow → Prop
  | .next, f => f = .next
  | .ret v, f => ∃ rv, f = .ret rv ∧ VRel ρ v rv
/-- a call, as the rows of the world see it -/
noncomputable def SndC (prog : Program) (w : World) (K : Frag) (sc : Scope) (n : Nat) (σ σ' : St) (f : AV) (as : List AV) (a : AV) : Prop :=
  ∀ (A₀ A : Around) (base h₀ : Heap) (outer : List Env) (fenv env : Env) (L : Addr) (m : Str → Option Value) (ρ : List Addr) (led : List (Addr × Obj)) (h : Heap) (tk : Nat) (z : Shared) (Q : Value → Shared → Prop) (E : Value → Shared → Prop) (fv : Value) (vs : List Value),
    Room K A₀ A base h₀ outer fenv env L sc n → Rel prog w h₀ L env σ ρ m led h → VRel ρ f fv → LRel ρ as vs →
    (∀ ρ' m' led' h' tk' v, To prog w h₀ L env σ ρ m led σ' ρ' m' led' h' → VRel ρ' a v → Q v (S z h' tk')) → wpAny (model prog w) A (PySem.call fv vs []) Q E (S z h tk)
/-- the evaluator's word is good at depth n -/
structure Good (prog : Program) (w : World) (K : Frag) (n : Nat) (ih : Ih) : Prop where
  ex : ∀ e sc σ a σ', ih (.ex e) sc σ = some (.v a, σ') → Snd prog w K sc n σ σ' (eval e) (fun ρ v => VRel ρ a v)
  tst : ∀ e sc σ b σ', ih (.tst e) sc σ = some (.b b, σ') → Snd prog w K sc n σ σ' (fun env => PySem.isTrue e env (eval e env)) (fun _ t => t = b)
  st : ∀ s sc σ f σ', ih (.st s) sc σ = some (.fl f, σ') → Snd prog w K sc n σ σ' (exec s) (fun ρ fl => FRel ρ f fl)
  call : ∀ f as sc σ a σ', ih (.call f as) sc σ = some (.v a, σ') → SndC prog w K sc n σ σ' f as a
section
variable {prog : Program} {w : World} {K : Frag} {tp : Tp} {sc : Scope} {n : Nat} {σ σ' : St} {ih : Ih}
theorem exV_ok (G : Good prog w K n ih) {e : PySem.Expr} {a : AV} (h : exV ih e sc σ = some (a, σ')) : Snd prog w K sc n σ σ' (eval e) (fun ρ v => VRel ρ a v) := by
  unfold exV at h
  split at h
  · next x s hx => cases h; exact G.ex _ _ _ _ _ hx
  · cases h
theorem exB_ok (G : Good prog w K n ih) {e : PySem.Expr} {b : Bool} (h : exB ih e sc σ = some (b, σ')) : Snd prog w K sc n σ σ' (fun env => PySem.isTrue e env (eval e env)) (fun _ t => t = b) := by
  unfold exB at h
  split at h
  · next x s hx => cases h; exact G.tst _ _ _ _ _ hx
  · cases h
theorem exF_ok (G : Good prog w K n ih) {s : Stmt} {f : Fl} (h : exF ih s sc σ = some (f, σ')) : Snd prog w K sc n σ σ' (exec s) (fun ρ fl => FRel ρ f fl) := by
  unfold exF at h
  split at h
  · next x s hx => cases h; exact G.st _ _ _ _ _ hx
  · cases h
theorem exC_ok (G : Good prog w K n ih) {f : AV} {as : List AV} {a : AV} (h : exC ih f as sc σ = some (a, σ')) : SndC prog w K sc n σ σ' f as a := by
  unfold exC at h
  split at h
  · next x s hx => cases h; exact G.call _ _ _ _ _ _ hx
  · cases h
theorem Room.weak {A₀ A : Around} {base h₀ : Heap} {outer : List Env} {fenv env : Env} {L : Addr} (R : Room K A₀ A base h₀ outer fenv env L sc (n + 1)) : Room K A₀ A base h₀ outer fenv env L sc n := R.le (Nat.le_succ n)
theorem star_cons {e : PySem.Expr} {rest : List PySem.Expr} (h : starless (e :: rest) = true) (env : Env) : starEach (e :: rest) env = (false, eval e env) :: starEach rest env := by
  cases e <;> first | rfl | (simp [starless] at h; done)
theorem star_tail {e : PySem.Expr} {rest : List PySem.Expr} (h : starless (e :: rest) = true) : starless rest = true := by
  unfold starless at h ⊢
  rw [List.all_cons, Bool.and_eq_true] at h
  exact h.2
theorem star_any {pos : Pos} (env : Env) : ∀ {es : List PySem.Expr}, starless es = true → (backTo pos (starEach es env)).any (·.1) = false
  | [], _ => rfl
  | e :: r, h => by
    rw [star_cons h]
    show (false || (backTo pos (starEach r env)).any (·.1)) = false
    rw [star_any env (star_tail h)]; rfl
/-- the arguments of a call, one by one -/
theorem snd_args (G : Good prog w K n ih) {pos : Pos} : ∀ {es : List PySem.Expr} {σ σ' : St} {as : List AV}, starless es = true → exs ih sc es σ = some (as, σ') →
    Snd prog w K sc n σ σ' (fun env => spliced (backTo pos (starEach es env))) (fun ρ vs => LRel ρ as vs)
  | [], σ, σ', as, _, e => by
    cases e
    intro A₀ A base h₀ outer fenv env L m ρ led h tk z Q E R X q
    exact spliced_none (q _ _ _ _ _ _ (To.refl X) trivial)
  | e :: r, σ, σ', as, hs, h0 => by
    unfold exs at h0
    split at h0
    · next a σ₁ he =>
      split at h0
      · next bs σ₂ hr =>
        cases h0
        intro A₀ A base h₀ outer fenv env L m ρ led h tk z Q E R X q
        refine spliced_more ?_ (star_cons hs env)
        refine exV_ok G he _ _ _ _ _ _ _ _ _ _ _ _ _ _ _ _ R X fun ρ₁ m₁ led₁ h₁ tk₁ v t₁ V₁ => ?_
        refine snd_args G (star_tail hs) hr _ _ _ _ _ _ _ _ _ _ _ _ _ _ _ _ R t₁.rel fun ρ₂ m₂ led₂ h₂ tk₂ vs t₂ V₂ => ?_
        exact q _ _ _ _ _ _ (t₁.trans t₂) ⟨V₁.to t₂.pre, V₂⟩
      · cases h0
    · cases h0
/-- call with what was evaluated: one of the top, or a built-in -/
theorem keeps_any {M : Model} {f : Value} (hf : keepIn K f = true ∨ (∀ a, f ≠ .ref a)) (h : Heap) (X : K.In h) : ∃ k, (k = Keeper.frame ∨ k = Keeper.machine ∨ k = Keeper.boundFrame) ∧ Looks M h (keeperOf f) k := by
  rcases hf with hf | hf
  · exact keeps_K hf h X
  · refine ⟨.machine, .inr (.inl rfl), Looks.of_pure ?_⟩
    unfold keeperOf
    cases f <;> first | rfl | exact absurd rfl (hf _)
theorem callWith_any {M : Model} {A : Around} {E : Value → Shared → Prop} {s : Shared} {h₀ : Heap} {env : Env} {pos : Pos} {f : Value} {first : List Value} {es : List PySem.Expr} {Q : Value → Shared → Prop} (hf : keepIn K f = true ∨ (∀ a, f ≠ .ref a)) (hs : starless es = true) (hX : K.In s.heap)
    (h : wpAny M A (spliced (backTo pos (starEach es env))) (fun vs s₁ => K.In s₁.heap ∧ wpAny M A (call f (first ++ vs)) Q E s₁) E s) : wpAny M A (callWith pos f first (backTo pos (starEach es env)) []) Q E s := by
  refine callWith_of (P := K.In) (by rw [star_any env hs]; rfl) (keeps_any hf) ?_
  cases es with
  | nil =>
    unfold evalArgs
    show wpAny M A (spliced [] >>= _) _ E s
    refine wpAny_bind (wpAny_mono h (fun vs s' h' => ?_) fun _ _ x => x)
    refine wpAny_bind (wpAny_pure ?_)
    refine wpAny_holding ?_
    exact wpAny_bind (wpAny_pure (wpAny_bind (wpAny_pure (wpAny_pure h'))))
  | cons e r =>
    rw [star_cons hs] at h ⊢
    exact evalArgs_plain h
theorem truth_ok {A : Around} {E : Value → Shared → Prop} {a : AV} {v : Value} {b : Bool} {ρ : List Addr} {s : Shared} {Q : Bool → Shared → Prop} {M : Model} (e : truth σ a = some b) (hv : VRel ρ a v) (h : Q b s) : wpAny M A (truthy v) Q E s := by
  cases a <;> (try (cases e; done))
  · cases e; cases hv; exact truthy_none h
  · cases e; cases hv; exact wpAny_truthy_bool h
theorem attr_eq {v : PySem.Expr} (hc : callee v = true) (attr : Str) (pos : Pos) (env : Env) : eval (.Attribute v attr pos) env = (do
    let o ← eval v env
    standAt pos.atName
    let r ← holding [o] (PySem.getAttr o attr true)
    letTemporaryGo v o r
    pure r) := by
  cases v <;> (try (exact Bool.noConfusion (hc : false = true))) <;> (try rfl)
  next f as kw p =>
    cases f <;> (try rfl) <;> (cases as <;> (try rfl) <;> (exact Bool.noConfusion (hc : false = true)))
theorem base_eq {o : PySem.Expr} (hc : callee o = true) (name : Str) (env : Env) : attributeBase o name env (eval o env) = eval o env := by
  cases o <;> (try (exact Bool.noConfusion (hc : false = true))) <;> (try rfl)
  next f as kw p =>
    cases f <;> (try rfl) <;> (cases as <;> (try rfl) <;> (exact Bool.noConfusion (hc : false = true)))
theorem sub_eq {s : PySem.Expr} (hc : plainIdx s = true) (o i : Value) : subscripted s false o i = operate [o, i] (PySem.getItem o i) := by
  cases s <;> first | rfl | (exact Bool.noConfusion (hc : false = true))
theorem eval_Sub (value slice : PySem.Expr) (pos : Pos) (env : Env) : eval (.Subscript value slice pos) env = (do
    let o ← eval value env
    let i ← holding [o] (eval slice env)
    standAt pos
    subscriptTail value slice o i) := by
  rw [eval_Subscript]
  rfl
end
end Mine
namespace Mine
section
variable {prog : Program} {w : World} {K : Frag} {tp : Tp} {sc : Scope} {n : Nat} {σ σ' : St} {ih : Ih}
  {A₀ A : Around} {base h₀ : Heap} {outer : List Env} {fenv env : Env} {L : Addr} {m : Str → Option Value} {ρ : List Addr} {led : List (Addr × Obj)} {h : Heap} {tk : Nat} {z : Shared} {E : Value → Shared → Prop}
noncomputable def mtId : Mt → String
  | .append => "list.append"
  | .extend => "list.extend"
  | .get => "dict.get"
  | .setdef => "dict.setdefault"
  | .index => "str.index"
theorem eq_of_sEq {x y : Str} {α : Type} {a b : α} {c : α} (h : (bif sEqB x y then a else b) = c) : (x = y ∧ a = c) ∨ b = c := by
  cases e : sEqB x y with
  | false => rw [e] at h; exact .inr h
  | true => rw [e] at h; exact .inl ⟨sEq_iff.mp e, h⟩
theorem meth_on {o : AV} {ov : Value} {x : Str} {k : Mt} (e : methOf σ o x = some k) (X : Rel prog w h₀ L env σ ρ m led h) (hv : VRel ρ o ov) :
    ∃ T, PlainAttrs T ∧ Slot T x (mtId k) ∧ typeOf (.builtin (mtId k)) = pure (.type "method_descriptor") ∧ (S z h tk).TypeIs ov T ∧ (∀ a, ov = .ref a → ∃ ob, (S z h tk).heap.get? a = some ob ∧ ob.dict = none) := by
  unfold methOf at e
  cases o <;> (try (cases e; done))
  · next y =>
    obtain ⟨t, rfl⟩ := hv
    rcases eq_of_sEq e with ⟨rfl, e⟩ | e
    · cases e
      exact ⟨"str", PySem.F.plainAttrs_str, PySem.F.slot_str_index, PySem.F.type_str_index, typeIs_str _ _ _, fun a e => nomatch e⟩
    · cases e
  · next i =>
    obtain ⟨ra, h1, rfl⟩ := hv
    dsimp only at e
    cases ho : σ.obj i with
    | none => rw [ho] at e; cases e
    | some ob =>
      rw [ho] at e
      obtain ⟨ro, hm, g⟩ := X.obj ho h1
      cases ob <;> (try (cases e; done))
      · next ik wh kn nn =>
        dsimp only at e
        have hd : (S z h tk).TypeIs (.ref ra) "dict" ∧ ∃ ob, (S z h tk).heap.get? ra = some ob ∧ ob.dict = none := by
          obtain ⟨_, g⟩ := g
          cases ik with
          | true =>
            obtain ⟨kvs, g1, _⟩ := g
            have hD : (S z h tk).heap.DictOf (intKind prog w) ra kvs := kda_dict X.N hm g1
            exact ⟨hD.typeIs, hD.mapOf.noDict _ rfl⟩
          | false =>
            obtain ⟨kvs, g1, _⟩ := g
            have hD : (S z h tk).heap.DictOf (PySem.strKind prog w) ra kvs := kda_dict X.N hm g1
            exact ⟨hD.typeIs, hD.mapOf.noDict _ rfl⟩
        have hn : ∀ a, Value.ref ra = .ref a → ∃ ob, (S z h tk).heap.get? a = some ob ∧ ob.dict = none := fun a e => by cases e; exact hd.2
        rcases eq_of_sEq e with ⟨rfl, e⟩ | e
        · cases e; exact ⟨"dict", PySem.F.plainAttrs_dict, PySem.F.slot_dict_get, PySem.F.type_dict_get, hd.1, hn⟩
        · rcases eq_of_sEq e with ⟨rfl, e⟩ | e
          · cases e; exact ⟨"dict", PySem.F.plainAttrs_dict, PySem.F.slot_dict_setdefault, PySem.F.type_dict_setdefault, hd.1, hn⟩
          · cases e
      · next xs wh nn =>
        dsimp only at e
        obtain ⟨its, ep, rfl, _⟩ := g
        have hl := list_at X.N hm
        have hn : ∀ a, Value.ref ra = .ref a → ∃ ob, (S z h tk).heap.get? a = some ob ∧ ob.dict = none := fun a e => by cases e; exact ⟨_, (X.N _ hm).1, rfl⟩
        rcases eq_of_sEq e with ⟨rfl, e⟩ | e
        · cases e; exact ⟨"list", PySem.F.plainAttrs_list, PySem.F.slot_list_append, PySem.F.type_list_append, hl.typeIs, hn⟩
        · rcases eq_of_sEq e with ⟨rfl, e⟩ | e
          · cases e; exact ⟨"list", PySem.F.plainAttrs_list, PySem.F.slot_list_extend, PySem.F.type_list_extend, hl.typeIs, hn⟩
          · cases e
theorem prel_push : ∀ {xs : List AV} {vs : List Value} {a : AV} {v : Value}, PRel ρ xs vs → VRel ρ a v → vs.length = xs.length → PRel ρ (xs ++ [a]) (vs ++ [v])
  | xs, vs, a, v, h1, h2, h3 => prel_app h1 h3 ⟨h2, by unfold PRel; trivial⟩
theorem prel_more : ∀ {xs : List AV} {vs us : List Value}, PRel ρ xs vs → PRel ρ xs (vs ++ us)
  | [], _, _, _ => by unfold PRel; trivial
  | _ :: _, _ :: _, _, ⟨h1, h2⟩ => ⟨h1, prel_more h2⟩
theorem pairs_same {Ky : Type} [DecidableEq Ky] {knd : KeyKind prog w Ky} : ∀ {es : List DictEntry} {a b : List (Ky × Value)}, Pairs knd es a → Pairs knd es b → a = b
  | _, _, _, .nil, .nil => rfl
  | _, _, _, .cons (kv := p) h1 h2 h3, .cons (kv := q) g1 g2 g3 => by
    have e1 : p.1 = q.1 := knd.inj _ _ _ h1 g1
    have e2 : p.2 = q.2 := h2.symm.trans g2
    rw [pairs_same h3 g3]
    congr 1
    exact Prod.ext e1 e2
theorem valueAt_same {Ky : Type} [DecidableEq Ky] {knd : KeyKind prog w Ky} {o : Obj} {a b : List (Ky × Value)} (h1 : o.IsDictOf knd a) (h2 : o.IsDictOf knd b) (k : Ky) : valueAt a k = valueAt b k := by
  obtain ⟨es, ep, _, d1, _, p1, _⟩ := h1
  obtain ⟨es', ep', _, d2, _, p2, _⟩ := h2
  rw [d1] at d2
  cases d2
  rw [pairs_same p1 p2]
theorem snd_meth {o a : AV} {ov : Value} {k : Mt} {as : List AV} {vs : List Value} (e : methDo σ k o as = some (a, σ')) {Q : Value → Shared → Prop}
    (X : Rel prog w h₀ L env σ ρ m led h) (ho : VRel ρ o ov) (hv : LRel ρ as vs)
    (q : ∀ ρ' m' led' h' tk' v, To prog w h₀ L env σ ρ m led σ' ρ' m' led' h' → VRel ρ' a v → Q v (S z h' tk')) : wpAny (model prog w) A (PySem.call (.builtin (mtId k)) ([ov] ++ vs)) Q E (S z h tk) := by
  unfold methDo at e
  cases k with
  | append =>
    dsimp only at e
    split at e
    · next i v =>
      obtain ⟨ra, h1, rfl⟩ := ho
      cases vs with
      | nil => exact hv.elim
      | cons x r =>
        obtain ⟨hx, hr⟩ := hv
        cases r with
        | cons _ _ => exact hr.elim
        | nil =>
          split at e
          · next xs wh nn hoi =>
            cases hb : Nat.blt nn 900 with
            | false => rw [hb] at e; cases e
            | true =>
              rw [hb] at e; cases e
              have hlt := blt_lt hb
              obtain ⟨ob, hm, its, ep, rfl, g2, g3, g4⟩ := X.obj hoi h1
              refine append_K X.F X.N (upd_of _ X.nd hm) (fun h' F' N' => ?_) (by unfold sizeLine; omega)
              refine q _ _ _ _ _ _ (X.put hoi h1 hm F' N' fun _ => ⟨_, _, rfl, ?_, ?_, fun hw => ?_⟩) rfl
              · rw [Array.size_push]; omega
              · rw [Array.toList_push]
                cases wh with
                | true => exact prel_push g3 hx (by rw [Array.length_toList]; exact g4 rfl)
                | false => exact prel_more g3
              · subst hw
                rw [Array.size_push, g4 rfl, cond_true, List.length_append]; rfl
          · cases e
    · cases e
  | extend =>
    dsimp only at e
    split at e
    · next i j =>
      obtain ⟨ra, h1, rfl⟩ := ho
      cases vs with
      | nil => exact hv.elim
      | cons x r =>
        obtain ⟨⟨rb, h2, rfl⟩, hr⟩ := hv
        cases r with
        | cons _ _ => exact hr.elim
        | nil =>
          split at e
          · next xs k ys k' ho1 ho2 =>
            cases hij : Nat.beq i j with
            | true => rw [hij] at e; cases e
            | false =>
              rw [hij, cond_false] at e
              cases hb : Nat.blt (k + k') 900 with
              | false => rw [hb] at e; cases e
              | true =>
                rw [hb] at e; cases e
                have hlt := blt_lt hb
                obtain ⟨its, ep, its2, ep2, m1, m2, l1, l2, ob', TT⟩ := ext_rel X ho1 h1 ho2 h2 hlt
                exact call_meets PySem.F.slot_list_extend (list_at X.N m1).typeIs PySem.F.entry_list_extend (PySem.F.args_list_extend_2 _ _) (PySem.AutoSeq1.list_extend_list_list_0 ra its ep rb its2 ep2 (not_long l1 l2 hlt) (by unfold sizeLine; omega) (by unfold sizeLine; omega)) ⟨(X.N _ m1).1, (X.N _ m2).1, q _ _ _ _ _ _ TT rfl⟩
          · cases e
    · cases e
  | index =>
    dsimp only at e
    split at e
    · next x y =>
      obtain ⟨t, rfl⟩ := ho
      cases vs with
      | nil => exact hv.elim
      | cons x' r =>
        obtain ⟨⟨u, rfl⟩, hr⟩ := hv
        cases r with
        | cons _ _ => exact hr.elim
        | nil =>
          split at e
          · next i rest ho =>
            cases e
            exact call_gives PySem.F.slot_str_index (typeIs_str _ x t) PySem.F.entry_str_index (PySem.F.args_str_index_2 _ _) (gives_str_index x y t u i rest ho) (q _ _ _ _ _ _ (To.refl X) ⟨_, rfl⟩)
          · cases e
    · cases e
  | get =>
    dsimp only at e
    split at e
    · next i kv dv =>
      obtain ⟨ra, h1, rfl⟩ := ho
      match vs, hv with
      | [x, y], ⟨hx, hy, _⟩ =>
        split at e
        · next d kk hoi hk =>
          obtain ⟨ob, hm, g⟩ := X.obj hoi h1
          cases hr : askD d kk with
          | none => rw [hr] at e; cases e
          | some r =>
            rw [hr] at e; cases e
            have fin : ∀ (r' : Option Value) (t : Nat), OptRel ρ r r' → Q (r'.getD y) (S z h t) := by
              intro r' t hr'
              cases r with
              | none => cases hr'; exact q _ _ _ _ _ _ (To.refl X) hy
              | some u => obtain ⟨ru, rfl, hu⟩ := hr'; exact q _ _ _ _ _ _ (To.refl X) hu
            cases kv <;> (try (cases hk; done)) <;> cases hk
            · next k =>
              obtain ⟨t, rfl⟩ := hx
              obtain ⟨lo, kvs, g1, g2, _⟩ := ask_int g hr
              exact kdg_get2 (knd := intKind prog w) (k := k) X.N hm g1 lo (by simp [intKind, Value.isInt]) _ rfl (fin _ _ g2)
            · next k =>
              obtain ⟨t, rfl⟩ := hx
              obtain ⟨lo, kvs, g1, g2, _⟩ := ask_str g hr
              exact kdg_get2 (knd := PySem.strKind prog w) (k := k) X.N hm g1 lo (by simp [PySem.strKind, Value.isStrOf]) _ rfl (fin _ _ g2)
        · cases e
    · cases e
  | setdef =>
    dsimp only at e
    split at e
    · next i kv dv =>
      obtain ⟨ra, h1, rfl⟩ := ho
      match vs, hv with
      | [x, y], ⟨hx, hy, _⟩ =>
        split at e
        · next d kk hoi hk =>
          obtain ⟨ob, hm, g⟩ := X.obj hoi h1
          split at e
          · next v hr =>
            split at e
            · next ik wh kn nn =>
              cases hb : Nat.blt nn 900 with
              | false => rw [hb] at e; cases e
              | true =>
                rw [hb] at e; cases e
                have hlt := blt_lt hb
                cases kv <;> (try (cases hk; done)) <;> cases hk
                · next k =>
                  obtain ⟨t, rfl⟩ := hx
                  obtain ⟨lo, kvs, g1, ⟨rv, g2, g3⟩, g4⟩ := ask_int g hr
                  have := g4 _ _ _ _ rfl
                  exact kob_setdef_there (knd := intKind prog w) (k := k) X.N hm g1 lo (by simp [intKind, Value.isInt]) (PySem.F.args_dict_setdefault_3 _ _ _) g2 (by unfold sizeLine; omega) (q _ _ _ _ _ _ (To.refl X) g3)
                · next k =>
                  obtain ⟨t, rfl⟩ := hx
                  obtain ⟨lo, kvs, g1, ⟨rv, g2, g3⟩, g4⟩ := ask_str g hr
                  have := g4 _ _ _ _ rfl
                  exact kob_setdef_there (knd := PySem.strKind prog w) (k := k) X.N hm g1 lo (by simp [PySem.strKind, Value.isStrOf]) (PySem.F.args_dict_setdefault_3 _ _ _) g2 (by unfold sizeLine; omega) (q _ _ _ _ _ _ (To.refl X) g3)
            · cases e
          · next hr =>
            cases hp : putD d kk dv with
            | none => rw [hp] at e; cases e
            | some o' =>
              rw [hp] at e; cases e
              cases kv <;> (try (cases hk; done)) <;> cases hk
              · next k =>
                obtain ⟨t, rfl⟩ := hx
                obtain ⟨lo, kvs, g1, g2, g4⟩ := ask_int g hr
                obtain ⟨_, kvs', g1', g3', g5⟩ := put_int g hp hy
                have hl : valueAt kvs' k = none := by
                  have := valueAt_same g1 g1' k
                  rw [← this]; exact g2
                exact kob_setdef_new (knd := intKind prog w) (k := k) X.F X.N (updF_of X.nd hm) g1' lo (by simp [intKind, Value.isInt]) (PySem.F.args_dict_setdefault_3 _ _ _) hl g3' fun h' o'' F' N' hd => q _ _ _ _ _ _ (X.put hoi h1 hm F' N' fun _ => g5 _ _ hd) hy
              · next k =>
                obtain ⟨t, rfl⟩ := hx
                obtain ⟨lo, kvs, g1, g2, g4⟩ := ask_str g hr
                obtain ⟨_, kvs', g1', g3', g5⟩ := put_str g hp hy
                have hl : valueAt kvs' k = none := by
                  have := valueAt_same g1 g1' k
                  rw [← this]; exact g2
                exact kob_setdef_new (knd := PySem.strKind prog w) (k := k) X.F X.N (updF_of X.nd hm) g1' lo (by simp [PySem.strKind, Value.isStrOf]) (PySem.F.args_dict_setdefault_3 _ _ _) hl g3' fun h' o'' F' N' hd => q _ _ _ _ _ _ (X.put hoi h1 hm F' N' fun _ => g5 _ _ hd) hy
          · cases e
        · cases e
    · cases e
end
end Mine
namespace Mine
theorem no_some {α : Type} {x : α} {P : Prop} (h : (none : Option α) = some x) : P := nomatch h
section
variable {prog : Program} {w : World} {K : Frag} {tp : Tp} {sc : Scope} {n : Nat} {σ σ' : St} {ih : Ih}
theorem may_keep (T : TpOK prog K tp) {f : AV} {v : Value} {ρ : List Addr} (h : mayCall tp f = true) (hv : VRel ρ f v) : keepIn K v = true ∨ ∀ a, v ≠ .ref a := by
  unfold mayCall at h
  split at h
  · cases hv; exact .inl (T.keep _ h)
  · cases hv; exact .inr fun a e => nomatch e
  · cases hv; exact .inr fun a e => nomatch e
  · cases h
theorem star_all {pos : Pos} (env : Env) : ∀ {es : List PySem.Expr}, starless es = true → (backTo pos (starEach es env)).all (fun x => !x.1) = true
  | [], _ => rfl
  | e :: r, h => by
    rw [star_cons h]
    show (true && (backTo pos (starEach r env)).all (fun x => !x.1)) = true
    rw [star_all env (star_tail h)]; rfl
/-- a block that gathers: told apart -/
noncomputable def CompOK (prog : Program) (w : World) (K : Frag) (tp : Tp) (n : Nat) (ih : Ih) : Prop := ∀ (e : PySem.Expr) sc σ a σ', (∃ el gs cs p, e = .ListComp el gs cs p) → eva tp ih sc σ e = some (a, σ') → Snd prog w K sc (n + 1) σ σ' (eval e) (fun ρ v => VRel ρ a v)
theorem eva_ok (T : TpOK prog K tp) (G : Good prog w K n ih) (C : CompOK prog w K tp n ih) {e : PySem.Expr} {a : AV} (h : eva tp ih sc σ e = some (a, σ')) : Snd prog w K sc (n + 1) σ σ' (eval e) (fun ρ v => VRel ρ a v) := by
  have h0 := h
  cases e <;> (try (exact no_some (α := AV × St) h))
  case Constant c ck cp =>
    dsimp only [eva] at h
    intro A₀ A base h₀ outer fenv env L m ρ led hh tk z Q E R X q
    cases c <;> (try (cases h; done)) <;> cases h
    · exact wpAny_Constant_none (q _ _ _ _ _ _ (To.refl X) rfl)
    · exact wpAny_Constant_bool (q _ _ _ _ _ _ (To.refl X) rfl)
    · exact wpAny_Constant_int (q _ _ _ _ _ _ (To.refl X) ⟨_, rfl⟩)
    · exact wpAny_Constant_str (q _ _ _ _ _ _ (To.refl X) ⟨_, rfl⟩)
  case Name x xp =>
    dsimp only [eva] at h
    cases hd : (x == ("__debug__" : Str)) with
    | true => rw [hd] at h; cases h
    | false =>
      rw [hd, cond_false] at h
      cases hl : load tp sc σ x with
      | none => rw [hl] at h; cases h
      | some v =>
        rw [hl] at h; cases h
        intro A₀ A base h₀ outer fenv env L m ρ led hh tk z Q E R X q
        exact wpAny_Name (snd_load (n := n + 1) T hl _ _ _ _ _ _ _ _ _ _ _ _ _ _ _ _ R X q) hd
  case Attribute v x p =>
    dsimp only [eva] at h
    cases hc : callee v with
    | false => rw [hc] at h; cases h
    | true =>
      rw [hc, cond_true] at h
      split at h
      · next o σ₁ ho =>
        cases hg : getAttr tp σ₁ o x with
        | none => rw [hg] at h; cases h
        | some u =>
          rw [hg] at h; cases h
          intro A₀ A base h₀ outer fenv env L m ρ led hh tk z Q E R X q
          refine Attribute_any_ ?_ (attr_eq hc _ _ _)
          refine exV_ok G ho _ _ _ _ _ _ _ _ _ _ _ _ _ _ _ _ R.weak X fun ρ₁ m₁ led₁ h₁ tk₁ ov t₁ V₁ => ?_
          exact snd_getAttr T hg R t₁.rel V₁ fun v hv => q _ _ _ _ _ _ t₁ hv
      · cases h
  case Call f as kw p =>
    cases f <;> (try (exact no_some (α := AV × St) h))
    case Name f fp =>
      cases kw with
      | cons _ _ => exact no_some (α := AV × St) h
      | nil =>
        dsimp only [eva] at h
        cases hs : starless as with
        | false => rw [hs] at h; cases h
        | true =>
          rw [hs, cond_true] at h
          split at h
          · next fv σ₀ hf =>
            cases hm : mayCall tp fv with
            | false => rw [hm] at h; cases h
            | true =>
              rw [hm, cond_true] at h
              split at h
              · next vs σ₁ hv =>
                intro A₀ A base h₀ outer fenv env L m ρ led hh tk z Q E R X q
                refine Call_ ?_ rfl
                refine exV_ok G hf _ _ _ _ _ _ _ _ _ _ _ _ _ _ _ _ R.weak X fun ρ₁ m₁ led₁ h₁ tk₁ f t₁ V₁ => ?_
                refine callWith_any (h₀ := h₀) (may_keep T hm V₁) hs (R.X.keeps t₁.rel.F.keep) ?_
                refine snd_args G hs hv _ _ _ _ _ _ _ _ _ _ _ _ _ _ _ _ R.weak t₁.rel fun ρ₂ m₂ led₂ h₂ tk₂ us t₂ V₂ => ?_
                refine ⟨R.X.keeps t₂.rel.F.keep, ?_⟩
                exact exC_ok G h _ _ _ _ _ _ _ _ _ _ _ _ _ _ _ _ _ _ R.weak t₂.rel (V₁.to t₂.pre) V₂ fun ρ₃ m₃ led₃ h₃ tk₃ v t₃ V₃ => q _ _ _ _ _ _ ((t₁.trans t₂).trans t₃) V₃
              · cases h
          · cases h
    case Attribute o x ap =>
      cases kw with
      | cons _ _ => exact no_some (α := AV × St) h
      | nil =>
        dsimp only [eva] at h
        cases hs : (starless as && callee o && (ap.endLine == p.line) && Nat.blt as.length 29) with
        | false => rw [hs] at h; cases h
        | true =>
          rw [hs, cond_true] at h
          simp only [Bool.and_eq_true] at hs
          obtain ⟨⟨⟨hs, hc⟩, hl⟩, hn⟩ := hs
          split at h
          · next ov σ₁ ho =>
            split at h
            · next k hk =>
              split at h
              · next vs σ₂ hv =>
                intro A₀ A base h₀ outer fenv env L m ρ led hh tk z Q E R X q
                refine wpAny_Call_method_late (base_eq hc _ _) ?_ hl rfl ?_
                · rw [star_all env hs]
                  have := blt_lt hn
                  simp only [Bool.true_and, Bool.and_eq_true, decide_eq_true_eq]
                  exact ⟨rfl, by simp; omega⟩
                refine exV_ok G ho _ _ _ _ _ _ _ _ _ _ _ _ _ _ _ _ R.weak X fun ρ₁ m₁ led₁ h₁ tk₁ f t₁ V₁ => ?_
                obtain ⟨Ty, k1, k2, k3, k4, k5⟩ := meth_on (z := z) (tk := tk₁) hk t₁.rel V₁
                refine ⟨Ty, mtId k, k1, k2, k3, k4, k5, ?_⟩
                refine callWith_any (h₀ := h₀) (.inr fun a e => nomatch e) hs (R.X.keeps t₁.rel.F.keep) ?_
                refine snd_args G hs hv _ _ _ _ _ _ _ _ _ _ _ _ _ _ _ _ R.weak t₁.rel fun ρ₂ m₂ led₂ h₂ tk₂ us t₂ V₂ => ?_
                refine ⟨R.X.keeps t₂.rel.F.keep, ?_⟩
                exact snd_meth h t₂.rel (V₁.to t₂.pre) V₂ fun ρ₃ m₃ led₃ h₃ tk₃ v t₃ V₃ => q _ _ _ _ _ _ ((t₁.trans t₂).trans t₃) V₃
              · cases h
            · cases h
          · cases h
  case Compare l ops rs p =>
    cases ops with
    | nil => exact no_some (α := AV × St) h
    | cons op ops =>
      cases ops with
      | cons _ _ => exact no_some (α := AV × St) h
      | nil =>
        cases rs with
        | nil => exact no_some (α := AV × St) h
        | cons r rs =>
          cases rs with
          | cons _ _ => exact no_some (α := AV × St) h
          | nil =>
            dsimp only [eva] at h
            cases hb : behindInMarks op r with
            | true => rw [hb] at h; cases h
            | false =>
              rw [hb, cond_false] at h
              split at h
              · next a σ₁ ha =>
                split at h
                · next b σ₂ hb' =>
                  cases hc : cmp tp σ₂ op a b with
                  | none => rw [hc] at h; cases h
                  | some t =>
                    rw [hc] at h; cases h
                    intro A₀ A base h₀ outer fenv env L m ρ led hh tk z Q E R X q
                    refine wpAny_Compare1 ?_ hb
                    refine exV_ok G ha _ _ _ _ _ _ _ _ _ _ _ _ _ _ _ _ R.weak X fun ρ₁ m₁ led₁ h₁ tk₁ va t₁ V₁ => ?_
                    refine exV_ok G hb' _ _ _ _ _ _ _ _ _ _ _ _ _ _ _ _ R.weak t₁.rel fun ρ₂ m₂ led₂ h₂ tk₂ vb t₂ V₂ => ?_
                    exact snd_cmp T hc R t₂.rel (V₁.to t₂.pre) V₂ fun k => q _ _ _ _ _ _ (t₁.trans t₂) rfl
                · cases h
              · cases h
  case BoolOp op es p =>
    cases op
    case And =>
      cases es with
      | nil => exact no_some (α := AV × St) h
      | cons x es =>
        cases es with
        | nil => exact no_some (α := AV × St) h
        | cons y es =>
          cases es with
          | cons _ _ => exact no_some (α := AV × St) h
          | nil =>
            dsimp only [eva] at h
            split at h
            · next a' σ₁ ha =>
              split at h
              · next t ht =>
                intro A₀ A base h₀ outer fenv env L m ρ led hh tk z Q E R X q
                refine wpAny_And2 ?_
                refine exV_ok G ha _ _ _ _ _ _ _ _ _ _ _ _ _ _ _ _ R.weak X fun ρ₁ m₁ led₁ h₁ tk₁ va t₁ V₁ => ?_
                refine truth_ok ht V₁ ?_
                cases t with
                | true =>
                  rw [cond_true] at h
                  rw [if_pos rfl]
                  exact exV_ok G h _ _ _ _ _ _ _ _ _ _ _ _ _ _ _ _ R.weak t₁.rel fun ρ₂ m₂ led₂ h₂ tk₂ vb t₂ V₂ => q _ _ _ _ _ _ (t₁.trans t₂) V₂
                | false =>
                  cases h
                  exact q _ _ _ _ _ _ t₁ V₁
              · cases h
            · cases h
    case Or =>
      cases es with
      | nil => exact no_some (α := AV × St) h
      | cons x es =>
        cases es with
        | nil => exact no_some (α := AV × St) h
        | cons y es =>
          cases es with
          | cons _ _ => exact no_some (α := AV × St) h
          | nil =>
            dsimp only [eva] at h
            split at h
            · next a' σ₁ ha =>
              split at h
              · next t ht =>
                intro A₀ A base h₀ outer fenv env L m ρ led hh tk z Q E R X q
                refine wpAny_Or2 ?_
                refine exV_ok G ha _ _ _ _ _ _ _ _ _ _ _ _ _ _ _ _ R.weak X fun ρ₁ m₁ led₁ h₁ tk₁ va t₁ V₁ => ?_
                refine truth_ok ht V₁ ?_
                cases t with
                | false =>
                  rw [cond_false] at h
                  exact exV_ok G h _ _ _ _ _ _ _ _ _ _ _ _ _ _ _ _ R.weak t₁.rel fun ρ₂ m₂ led₂ h₂ tk₂ vb t₂ V₂ => q _ _ _ _ _ _ (t₁.trans t₂) V₂
                | true =>
                  cases h
                  exact q _ _ _ _ _ _ t₁ V₁
              · cases h
            · cases h
  case UnaryOp op x p =>
    cases op <;> (try (exact no_some (α := AV × St) h))
    case Not =>
      dsimp only [eva] at h
      split at h
      · next b σ₁ ha =>
        cases h
        intro A₀ A base h₀ outer fenv env L m ρ led hh tk z Q E R X q
        refine wpAny_UnaryOp ?_
        refine exV_ok G ha _ _ _ _ _ _ _ _ _ _ _ _ _ _ _ _ R.weak X fun ρ₁ m₁ led₁ h₁ tk₁ va t₁ V₁ => ?_
        cases V₁
        exact not_of (wpAny_truthy_bool (q _ _ _ _ _ _ t₁ rfl))
      · cases h
    case USub =>
      dsimp only [eva] at h
      split at h
      · next i σ₁ ha =>
        cases h
        intro A₀ A base h₀ outer fenv env L m ρ led hh tk z Q E R X q
        refine wpAny_UnaryOp ?_
        refine exV_ok G ha _ _ _ _ _ _ _ _ _ _ _ _ _ _ _ _ R.weak X fun ρ₁ m₁ led₁ h₁ tk₁ va t₁ V₁ => ?_
        obtain ⟨t, rfl⟩ := V₁
        exact PySem.P.neg_int (q _ _ _ _ _ _ t₁ ⟨_, rfl⟩)
      · cases h
  case IfExp t b o p =>
    dsimp only [eva] at h
    split at h
    · next c σ₁ ha =>
      intro A₀ A base h₀ outer fenv env L m ρ led hh tk z Q E R X q
      refine wpAny_IfExp ?_
      refine exB_ok G ha _ _ _ _ _ _ _ _ _ _ _ _ _ _ _ _ R.weak X fun ρ₁ m₁ led₁ h₁ tk₁ va t₁ V₁ => ?_
      subst V₁
      cases va with
      | true =>
        rw [cond_true] at h
        rw [if_pos rfl]
        exact exV_ok G h _ _ _ _ _ _ _ _ _ _ _ _ _ _ _ _ R.weak t₁.rel fun ρ₂ m₂ led₂ h₂ tk₂ vb t₂ V₂ => q _ _ _ _ _ _ (t₁.trans t₂) V₂
      | false =>
        rw [cond_false] at h
        exact exV_ok G h _ _ _ _ _ _ _ _ _ _ _ _ _ _ _ _ R.weak t₁.rel fun ρ₂ m₂ led₂ h₂ tk₂ vb t₂ V₂ => q _ _ _ _ _ _ (t₁.trans t₂) V₂
    · cases h
  case BinOp l op r p =>
    dsimp only [eva] at h
    split at h
    · next a' σ₁ ha =>
      split at h
      · next b σ₂ hb =>
        intro A₀ A base h₀ outer fenv env L m ρ led hh tk z Q E R X q
        refine wpAny_BinOp ?_
        refine exV_ok G ha _ _ _ _ _ _ _ _ _ _ _ _ _ _ _ _ R.weak X fun ρ₁ m₁ led₁ h₁ tk₁ va t₁ V₁ => ?_
        refine exV_ok G hb _ _ _ _ _ _ _ _ _ _ _ _ _ _ _ _ R.weak t₁.rel fun ρ₂ m₂ led₂ h₂ tk₂ vb t₂ V₂ => ?_
        exact snd_bin h t₂.rel (V₁.to t₂.pre) V₂ fun ρ₃ m₃ led₃ h₃ tk₃ v t₃ V₃ => q _ _ _ _ _ _ ((t₁.trans t₂).trans t₃) V₃
      · cases h
    · cases h
  case Subscript v s p =>
    dsimp only [eva] at h
    cases hp : plainIdx s with
    | false => rw [hp] at h; cases h
    | true =>
      rw [hp] at h
      try simp only [Bool.not_true, cond_false] at h
      split at h
      · next o σ₁ ho =>
        split at h
        · next i σ₂ hi =>
          cases hit : itemAt tp σ₂ o i with
          | none => rw [hit] at h; cases h
          | some u =>
            rw [hit] at h; cases h
            intro A₀ A base h₀ outer fenv env L m ρ led hh tk z Q E R X q
            refine Subscript_ ?_
            refine exV_ok G ho _ _ _ _ _ _ _ _ _ _ _ _ _ _ _ _ R.weak X fun ρ₁ m₁ led₁ h₁ tk₁ va t₁ V₁ => ?_
            refine exV_ok G hi _ _ _ _ _ _ _ _ _ _ _ _ _ _ _ _ R.weak t₁.rel fun ρ₂ m₂ led₂ h₂ tk₂ vb t₂ V₂ => ?_
            exact snd_item hit t₂.rel (V₁.to t₂.pre) V₂ (sub_eq hp) fun v k hv => q _ _ _ _ _ _ (t₁.trans t₂) hv
        · cases h
      · cases h
  case Tuple es k p =>
    dsimp only [eva] at h
    cases hs : starless es with
    | false => rw [hs] at h; cases h
    | true =>
      rw [hs, cond_true] at h
      split at h
      · next vs σ₁ hv =>
        cases hb : Nat.blt vs.length 900 with
        | false => rw [hb] at h; cases h
        | true =>
          rw [hb] at h; cases h
          have hlt := blt_lt hb
          intro A₀ A base h₀ outer fenv env L m ρ led hh tk z Q E R X q
          refine Tuple_ ?_
          refine snd_args G hs hv _ _ _ _ _ _ _ _ _ _ _ _ _ _ _ _ R.weak X fun ρ₁ m₁ led₁ h₁ tk₁ us t₁ V₁ => ?_
          have hl := lrel_len V₁
          refine kup_newTuple t₁.rel.F t₁.rel.N (fun D h' F' N' hD => ?_) (by unfold sizeLine; omega)
          exact q _ _ _ _ _ _ (t₁.trans (t₁.rel.add F' N' hD ⟨_, rfl, V₁.mono⟩)) ⟨D, last_rho t₁.rel, rfl⟩
      · cases h
  case List es p =>
    dsimp only [eva] at h
    cases hs : starless es with
    | false => rw [hs] at h; cases h
    | true =>
      rw [hs, cond_true] at h
      split at h
      · next vs σ₁ hv =>
        cases hb : Nat.blt vs.length 900 with
        | false => rw [hb] at h; cases h
        | true =>
          rw [hb] at h; cases h
          have hlt := blt_lt hb
          intro A₀ A base h₀ outer fenv env L m ρ led hh tk z Q E R X q
          refine List_ ?_
          refine snd_args G hs hv _ _ _ _ _ _ _ _ _ _ _ _ _ _ _ _ R.weak X fun ρ₁ m₁ led₁ h₁ tk₁ us t₁ V₁ => ?_
          have hl := lrel_len V₁
          refine newList_K t₁.rel.F t₁.rel.N (fun D h' F' N' hD => ?_) (by unfold sizeLine; omega)
          exact q _ _ _ _ _ _ (t₁.trans (t₁.rel.add F' N' hD ⟨_, _, rfl, by simp [hl], (lrel_prel V₁).mono, fun _ => by simp [hl]⟩)) ⟨D, last_rho t₁.rel, rfl⟩
      · cases h
  case Dict ks vs p =>
    cases ks with
    | cons _ _ => exact no_some (α := AV × St) h
    | nil =>
      cases vs with
      | cons _ _ => exact no_some (α := AV × St) h
      | nil =>
        cases h
        intro A₀ A base h₀ outer fenv env L m ρ led hh tk z Q E R X q
        obtain ⟨p, loose, mg, mb, TR⟩ := R.T
        refine newDict_K X.F X.N TR.nolimit fun d h' o F' N' hd lo k1 _ k2 _ => ?_
        exact q _ _ _ _ _ _ (X.add F' N' hd ⟨lo, [], k1, Nat.le_refl _, fun k r e => by cases e; rfl⟩) ⟨d, last_rho X, rfl⟩
  case ListComp el gs cs p =>
    exact C _ _ _ _ _ ⟨_, _, _, _, rfl⟩ h0
end
end Mine
namespace Mine
section
variable {prog : Program} {w : World} {K : Frag} {tp : Tp} {sc : Scope} {n : Nat} {σ σ' : St} {ih : Ih}
  {h₀ : Heap} {L : Addr} {env : Env} {m : Str → Option Value} {ρ : List Addr} {led : List (Addr × Obj)} {h h' : Heap}
theorem Rel.heap (X : Rel prog w h₀ L env σ ρ m led h) (F' : Fr h₀ L h' m) (N' : News h₀ L h' led) : Rel prog w h₀ L env σ ρ m led h' := { X with F := F', N := N' }
theorem Snd.weak {α : Type} {c : Env → Sem α} {V : List Addr → α → Prop} (H : Snd prog w K sc n σ σ' c V) : Snd prog w K sc (n + 1) σ σ' c V := H.le (Nat.le_succ n)
theorem sts_ok (G : Good prog w K n ih) : ∀ {ss : List Stmt} {σ σ' : St} {f : Fl}, sts ih sc ss σ = some (f, σ') → Snd prog w K sc n σ σ' (execs ss) (fun ρ fl => FRel ρ f fl)
  | [], σ, σ', f, e => by
    cases e
    intro A₀ A base h₀ outer fenv env L m ρ led h tk z Q E R X q
    exact wpAny_execs_nil (q _ _ _ _ _ _ (To.refl X) rfl)
  | s :: r, σ, σ', f, e => by
    unfold sts at e
    intro A₀ A base h₀ outer fenv env L m ρ led h tk z Q E R X q
    refine wpAny_execs_cons ?_
    split at e
    · next σ₁ he =>
      refine exF_ok G he _ _ _ _ _ _ _ _ _ _ _ _ _ _ _ _ R X fun ρ₁ m₁ led₁ h₁ tk₁ v t₁ V₁ => ?_
      cases V₁
      exact sts_ok G e _ _ _ _ _ _ _ _ _ _ _ _ _ _ _ _ R t₁.rel fun ρ₂ m₂ led₂ h₂ tk₂ vs t₂ V₂ => q _ _ _ _ _ _ (t₁.trans t₂) V₂
    · next u σ₁ he =>
      cases e
      refine exF_ok G he _ _ _ _ _ _ _ _ _ _ _ _ _ _ _ _ R X fun ρ₁ m₁ led₁ h₁ tk₁ v t₁ V₁ => ?_
      have V₁' := V₁
      obtain ⟨rv, rfl, _⟩ := V₁
      exact q _ _ _ _ _ _ t₁ V₁'
    · cases e
/-- what a loop or a block within a statement must give -/
structure Loops (prog : Program) (w : World) (K : Frag) (tp : Tp) (n : Nat) (ih : Ih) : Prop where
  wh : ∀ t b sc σ f σ' (p : Pos), ih (.wh t b) sc σ = some (.fl f, σ') → Snd prog w K sc n σ σ' (exec (.While t b [] p)) (fun ρ fl => FRel ρ f fl)
  fo : ∀ x px it b sc σ l σ₁ f σ' (p : Pos), isSet it = false → exV ih it sc σ = some (.ref l, σ₁) → ih (.fort x b l 0) sc σ₁ = some (.fl f, σ') → Snd prog w K sc n σ σ' (exec (.For (.Name x px) it b [] p)) (fun ρ fl => FRel ρ f fl)
  cu : ∀ (e : PySem.Expr) y py sc σ a σ₁ σ', (∃ el gs cs q, e = .ListComp el gs cs q) → exV ih e sc σ = some (a, σ₁) → store sc σ₁ y a = some σ' → kindOf sc y = some .local → Snd prog w K sc n σ σ' (fun env => evalThenUse e env (assign (.Name y py) env)) (fun _ _ => True)
theorem interactive_no {A₀ A : Around} {base : Heap} {outer : List Env} {fenv : Env} (R : Room K A₀ A base h₀ outer fenv env L sc n) : interactive env = false := by
  unfold interactive
  rw [R.esc, R.ekind]; rfl
theorem assignEach_names (env : Env) : ∀ {ts : List PySem.Expr} {vs : List AV} {σ σ' : St}, stores sc ts vs σ = some σ' → (assignEach ts env).length = vs.length ∧ (assignEach ts env).findIdx? (·.1) = none
  | [], vs, _, _, e => by
    unfold stores at e
    split at e
    · exact ⟨rfl, rfl⟩
    · cases e
  | t :: r, vs, _, _, e => by
    unfold stores at e
    split at e
    · cases e
    · next v vs =>
      split at e
      · next x p =>
        split at e
        · have := assignEach_names env e
          refine ⟨by show (assignEach r env).length + 1 = vs.length + 1; rw [this.1], ?_⟩
          show List.findIdx? (·.1) ((false, assign (.Name x p) env) :: assignEach r env) = none
          rw [List.findIdx?_cons]
          simp [this.2]
        · cases e
      · cases e
theorem stores_ok {A₀ A : Around} {base : Heap} {outer : List Env} {fenv : Env} {z : Shared} {E : Value → Shared → Prop} {Q : Unit → Shared → Prop} (R : Room K A₀ A base h₀ outer fenv env L sc n) :
    ∀ {ts : List PySem.Expr} {vs : List AV} {us : List Value} {σ σ' : St} {ρ : List Addr} {m : Str → Option Value} {led : List (Addr × Obj)} {h : Heap} {tk : Nat}, stores sc ts vs σ = some σ' → Rel prog w h₀ L env σ ρ m led h → LRel ρ vs us →
      (∀ ρ' m' led' h' tk', To prog w h₀ L env σ ρ m led σ' ρ' m' led' h' → Q () (S z h' tk')) → wpAny (model prog w) A (assignInOrder ((assignEach ts env).map (·.2)) us) Q E (S z h tk)
  | [], vs, us, σ, σ', ρ, m, led, h, tk, e, X, hv, q => by
    unfold stores at e
    split at e
    · cases e
      cases us with
      | nil => exact wpAny_pure (q _ _ _ _ _ (To.refl X))
      | cons _ _ => exact hv.elim
    · cases e
  | t :: r, vs, us, σ, σ', ρ, m, led, h, tk, e, X, hv, q => by
    unfold stores at e
    split at e
    · cases e
    · next v vs =>
      cases us with
      | nil => exact hv.elim
      | cons u us =>
        obtain ⟨h1, h2⟩ := hv
        split at e
        · next x p =>
          split at e
          · next σ₁ hs =>
            show wpAny _ A (do holding us (assign (.Name x p) env u); assignInOrder ((assignEach r env).map (·.2)) us) Q E _
            refine wpAny_bind (wpAny_holding (wpAny_assign_Name (snd_store hs R X h1 fun ρ₁ m₁ led₁ h₁ tk₁ t₁ => ?_)))
            exact stores_ok R e t₁.rel (h2.to t₁.pre) fun ρ₂ m₂ led₂ h₂ tk₂ t₂ => q _ _ _ _ _ (t₁.trans t₂)
          · cases e
        · cases e
theorem swapped_some {env : Env} {a b : Str} {pa pb : Pos} {v1 v2 : PySem.Expr} {k k2 : Nat} {tp2 vp : Pos} (hs : env.scope = sc) (hk : sc.kind = .function) (h : swapsB sc a pa b pb v1 v2 = true) :
    swappedStores [.Tuple [.Name a pa, .Name b pb] k tp2] (.Tuple [v1, v2] k2 vp) env = pure (some [a, b]) := by
  unfold swapsB at h
  simp only [Bool.and_eq_true, Bool.not_eq_true', beq_iff_eq] at h
  obtain ⟨⟨⟨⟨⟨⟨⟨⟨h1, h2⟩, h3⟩, h4⟩, h5⟩, h6⟩, h7⟩, h8⟩, h9⟩ := h
  have hb : env.blockKind = .function := by unfold Env.blockKind; rw [hs, hk]; rfl
  have e1 : env.kindOf a = some .local := (kindOf_eq hs a).trans h1
  have e2 : env.kindOf b = some .local := (kindOf_eq hs b).trans h2
  have f1 : (isStar v1 || (isStar v2 || false)) = false := by rw [h6, h7]; rfl
  have f2 : (foldedForSure 8 v1 && (foldedForSure 8 v2 && true)) = false := by rw [Bool.and_true]; exact h8
  have f3 : (constantsAlone 8 v1 && (constantsAlone 8 v2 && true)) = false := by rw [Bool.and_true]; exact h9
  unfold swappedStores
  simp only [hb]
  rw [if_neg (by simp)]
  refine (if_neg (fun e => Bool.false_ne_true (f1.symm.trans e))).trans ?_
  have hd : ([a, b] : List Str).eraseDups = [a, b] := by
    simp [List.eraseDups, List.eraseDupsBy, List.eraseDupsBy.loop, h5]
  have hline : (Option.map (fun x : PySem.Expr => x.pos.line) [PySem.Expr.Name a pa, .Name b pb].head?).getD 0 = pa.line := rfl
  rw [hline]
  simp only [List.filterMap_cons, List.filterMap_nil, e1, e2, h3, BEq.rfl, Bool.and_self, if_true, hd]
  rw [if_neg (by simp)]
  refine (if_neg (fun e => Bool.false_ne_true (f2.symm.trans e))).trans ?_
  exact if_neg (fun e => Bool.false_ne_true (f3.symm.trans e))
theorem sw_attr (v : PySem.Expr) (o : PySem.Expr) (a : Str) (p : Pos) (line : Nat) (env : Env) : swapsWith v (some (.Attribute o a p)) line env = pure false := by cases v <;> rfl
theorem sw_sub (v : PySem.Expr) (o i : PySem.Expr) (p : Pos) (line : Nat) (env : Env) : swapsWith v (some (.Subscript o i p)) line env = pure false := by cases v <;> rfl
theorem sw_tup (v : PySem.Expr) (es : List PySem.Expr) (k : Nat) (p : Pos) (line : Nat) (env : Env) : swapsWithSole [.Tuple es k p] v line env = pure false := by cases v <;> rfl
theorem sta_ok (T : TpOK prog K tp) (G : Good prog w K n ih) (Lo : Loops prog w K tp n ih) {s : Stmt} {f : Fl} (h : sta tp ih sc σ s = some (f, σ')) : Snd prog w K sc (n + 1) σ σ' (exec s) (fun ρ fl => FRel ρ f fl) := by
  cases s <;> (try (exact no_some (α := Fl × St) h))
  case Expr v p =>
    cases v <;> (try (exact no_some (α := Fl × St) h))
    case Call f' as kw cp =>
      dsimp only [sta] at h
      split at h
      · next a σ₁ ha =>
        cases h
        intro A₀ A base h₀ outer fenv env L m ρ led hh tk z Q E R X q
        refine wpAny_Expr_any ?_ (interactive_no R) rfl
        exact exV_ok G ha _ _ _ _ _ _ _ _ _ _ _ _ _ _ _ _ R.weak X fun ρ₁ m₁ led₁ h₁ tk₁ va t₁ V₁ => q _ _ _ _ _ _ t₁ rfl
      · cases h
  case Assign t0 v p =>
    cases t0 with
    | nil => exact no_some (α := Fl × St) h
    | cons t0 tr =>
      cases t0 <;> (try (exact no_some (α := Fl × St) h))
      case Name x xp =>
        cases tr with
        | cons _ _ => exact no_some (α := Fl × St) h
        | nil =>
          dsimp only [sta] at h
          cases hsd : isSD v with
          | true => rw [hsd] at h; cases h
          | false =>
            rw [hsd, cond_false] at h
            split at h
            · next a σ₁ ha =>
              cases hs : store sc σ₁ x a with
              | none => rw [hs] at h; cases h
              | some σ₂ =>
                rw [hs] at h; cases h
                intro A₀ A base h₀ outer fenv env L m ρ led hh tk z Q E R X q
                have plain : swapsWith v (some (.Name x xp)) p.line env = pure false → wpAny (model prog w) A (exec (.Assign [.Name x xp] v p) env) Q E (S z hh tk) := fun hsw => by
                  refine wpAny_Assign_Name ?_ hsw
                  refine exV_ok G ha _ _ _ _ _ _ _ _ _ _ _ _ _ _ _ _ R.weak X fun ρ₁ m₁ led₁ h₁ tk₁ va t₁ V₁ => ?_
                  exact snd_store hs R t₁.rel V₁ fun ρ₂ m₂ led₂ h₂ tk₂ t₂ => q _ _ _ _ _ _ (t₁.trans t₂) rfl
                by_cases hl : ∃ el gs cs q, v = .ListComp el gs cs q
                · obtain ⟨el, gs, cs, lp, rfl⟩ := hl
                  have hsw : swapsWith (.ListComp el gs cs lp) (some (.Name x xp)) p.line env = pure (env.blockKind == .function && env.kindOf x == some .local && xp.line == (PySem.Expr.ListComp el gs cs lp).pos.line && !(cs.names.any fun (n, k) => n == x && (k == .local || k == .cell))) := rfl
                  cases hb : (env.blockKind == .function && env.kindOf x == some .local && xp.line == (PySem.Expr.ListComp el gs cs lp).pos.line && !(cs.names.any fun (n, k) => n == x && (k == .local || k == .cell))) with
                  | false => exact plain (by rw [hsw, hb])
                  | true =>
                    rw [exec_Assign_Name_used _ _ _ _ (by rw [hsw, hb])]
                    simp only [Bool.and_eq_true] at hb
                    have hx : kindOf sc x = some .local := by rw [← kindOf_eq R.esc]; exact beq_iff_eq.mp hb.1.1.2
                    refine wpAny_bind (wpAny_standAt (wpAny_bind ?_))
                    exact Lo.cu _ _ _ _ _ _ _ _ ⟨_, _, _, _, rfl⟩ ha hs hx _ _ _ _ _ _ _ _ _ _ _ _ _ _ _ _ R.weak X fun ρ₁ m₁ led₁ h₁ tk₁ va t₁ V₁ => wpAny_pure (q _ _ _ _ _ _ t₁ rfl)
                · refine plain ?_
                  cases v <;> first | rfl | (exact absurd ⟨_, _, _, _, rfl⟩ hl) | (simp [isSD] at hsd)
            · cases h
      case Attribute o x xp =>
        cases tr with
        | cons _ _ => exact no_some (α := Fl × St) h
        | nil =>
          dsimp only [sta] at h
          split at h
          · next b σ₁ hb =>
            split at h
            · next ov σ₂ ho =>
              cases hs : setAttr tp σ₂ ov x b with
              | none => rw [hs] at h; cases h
              | some σ₃ =>
                rw [hs] at h; cases h
                intro A₀ A base h₀ outer fenv env L m ρ led hh tk z Q E R X q
                refine plainObj_wpAny_Assign_Attribute ?_ (sw_attr _ _ _ _ _ _)
                refine exV_ok G hb _ _ _ _ _ _ _ _ _ _ _ _ _ _ _ _ R.weak X fun ρ₁ m₁ led₁ h₁ tk₁ va t₁ V₁ => ?_
                refine exV_ok G ho _ _ _ _ _ _ _ _ _ _ _ _ _ _ _ _ R.weak t₁.rel fun ρ₂ m₂ led₂ h₂ tk₂ vo t₂ V₂ => ?_
                exact snd_setAttr T hs R t₂.rel V₂ (V₁.to t₂.pre) fun ρ₃ m₃ led₃ h₃ tk₃ t₃ => q _ _ _ _ _ _ ((t₁.trans t₂).trans t₃) rfl
            · cases h
          · cases h
      case Subscript o i ip =>
        cases tr with
        | cons _ _ => exact no_some (α := Fl × St) h
        | nil =>
          dsimp only [sta] at h
          split at h
          · next b σ₁ hb =>
            split at h
            · next d σ₂ ho =>
              split at h
              · next iv σ₃ hi =>
                split at h
                · next od k hod hk =>
                  cases hp : putD od k b with
                  | none => rw [hp] at h; cases h
                  | some o' =>
                    rw [hp] at h; cases h
                    intro A₀ A base h₀ outer fenv env L m ρ led hh tk z Q E R X q
                    refine wpAny_Assign_Subscript ?_ (sw_sub _ _ _ _ _ _)
                    refine exV_ok G hb _ _ _ _ _ _ _ _ _ _ _ _ _ _ _ _ R.weak X fun ρ₁ m₁ led₁ h₁ tk₁ va t₁ V₁ => ?_
                    refine exV_ok G ho _ _ _ _ _ _ _ _ _ _ _ _ _ _ _ _ R.weak t₁.rel fun ρ₂ m₂ led₂ h₂ tk₂ vo t₂ V₂ => ?_
                    refine exV_ok G hi _ _ _ _ _ _ _ _ _ _ _ _ _ _ _ _ R.weak t₂.rel fun ρ₃ m₃ led₃ h₃ tk₃ vi t₃ V₃ => ?_
                    obtain ⟨ra, g1, rfl⟩ := V₂.to t₃.pre
                    obtain ⟨ob, hm, g⟩ := t₃.rel.obj hod g1
                    have hva := (V₁.to t₂.pre).to t₃.pre
                    cases iv <;> (try (cases hk; done)) <;> cases hk
                    · next kk =>
                      obtain ⟨t, rfl⟩ := V₃
                      obtain ⟨lo, kvs, g2, g3, g5⟩ := put_int g hp hva
                      exact kda_set (knd := intKind prog w) (k := kk) t₃.rel.F t₃.rel.N (updF_of t₃.rel.nd hm) g2 (by simp [intKind, Value.isInt]) g3 fun h' o'' F' N' hd => q _ _ _ _ _ _ (((t₁.trans t₂).trans t₃).trans (t₃.rel.put hod g1 hm F' N' fun _ => g5 _ _ hd)) rfl
                    · next kk =>
                      obtain ⟨t, rfl⟩ := V₃
                      obtain ⟨lo, kvs, g2, g3, g5⟩ := put_str g hp hva
                      exact kda_set (knd := PySem.strKind prog w) (k := kk) t₃.rel.F t₃.rel.N (updF_of t₃.rel.nd hm) g2 (by simp [PySem.strKind, Value.isStrOf]) g3 fun h' o'' F' N' hd => q _ _ _ _ _ _ (((t₁.trans t₂).trans t₃).trans (t₃.rel.put hod g1 hm F' N' fun _ => g5 _ _ hd)) rfl
                · cases h
              · cases h
            · cases h
          · cases h
      case Tuple ts k tpos =>
        cases tr with
        | cons _ _ => exact no_some (α := Fl × St) h
        | nil =>
          dsimp only [sta] at h
          split at h
          · next vs vk vp =>
            split at h
            · next a pa b pb v1 v2 =>
              cases hsw : swapsB sc a pa b pb v1 v2 with
              | false => rw [hsw] at h; cases h
              | true =>
                rw [hsw, cond_true] at h
                split at h
                · next i σ₁ hv =>
                  split at h
                  · next x y hti =>
                    split at h
                    · next σ₂ hs2 =>
                      cases hs3 : store sc σ₂ a x with
                      | none => rw [hs3] at h; cases h
                      | some σ₃ =>
                        rw [hs3] at h; cases h
                        intro A₀ A base h₀ outer fenv env L m ρ led hh tk z Q E R X q
                        refine Assign_Tuple_swapped (names := [a, b]) ?_ (sw_tup _ _ _ _ _ _) (swapped_some R.esc R.ekind hsw)
                        refine exV_ok G hv _ _ _ _ _ _ _ _ _ _ _ _ _ _ _ _ R.weak X fun ρ₁ m₁ led₁ h₁ tk₁ va t₁ V₁ => ?_
                        obtain ⟨ra, g1, rfl⟩ := V₁
                        obtain ⟨ob, hm, its, rfl, g⟩ := t₁.rel.obj hti g1
                        have hlen : [a, b].length = its.size := by have := lrel_len g; simpa using this.symm
                        refine unpackItemsN_ (s := S z h₁ tk₁) t₁.rel.F t₁.rel.N (tup_at t₁.rel.N hm) R.hand hlen fun h' F' N' => ?_
                        have X' := t₁.rel.heap F' N'
                        match hits : its.toList, g with
                        | [u1, u2], ⟨w1, w2, _⟩ =>
                          show wpAny _ A (do holding [u1] (bindName env b u2); do holding [] (bindName env a u1); pure ()) _ E _
                          refine wpAny_bind (wpAny_holding (wpAny_bindName (snd_store hs2 R X' w2 fun ρ₂ m₂ led₂ h₂ tk₂ t₂ => ?_)))
                          refine wpAny_bind (wpAny_holding (wpAny_bindName (snd_store hs3 R t₂.rel (w1.to t₂.pre) fun ρ₃ m₃ led₃ h₃ tk₃ t₃ => ?_)))
                          exact wpAny_pure (q _ _ _ _ _ _ (({ t₁ with rel := X' } : To prog w h₀ L env _ _ _ _ _ _ _ _ _).trans (t₂.trans t₃)) rfl)
                    · cases h
                  · cases h
                · cases h
            · cases h
          · cases h
          · next hT hC =>
            split at h
            · next i σ₁ hv =>
              split at h
              · next vs hti =>
                cases hs : stores sc ts vs σ₁ with
                | none => rw [hs] at h; cases h
                | some σ₂ =>
                  rw [hs] at h; cases h
                  intro A₀ A base h₀ outer fenv env L m ρ led hh tk z Q E R X q
                  refine Assign_Tuple ?_ (sw_tup _ _ _ _ _ _) ?_
                  · refine exV_ok G hv _ _ _ _ _ _ _ _ _ _ _ _ _ _ _ _ R.weak X fun ρ₁ m₁ led₁ h₁ tk₁ va t₁ V₁ => ?_
                    obtain ⟨ra, g1, rfl⟩ := V₁
                    obtain ⟨ob, hm, its, rfl, g⟩ := t₁.rel.obj hti g1
                    have ha := assignEach_names env hs
                    refine unpackN_ (s := S z h₁ tk₁) t₁.rel.F t₁.rel.N (tup_at t₁.rel.N hm) R.hand (by rw [ha.1]; have := lrel_len g; simpa using this.symm) ha.2 fun h' F' N' => ?_
                    have X' := t₁.rel.heap F' N'
                    exact stores_ok R hs X' g fun ρ₂ m₂ led₂ h₂ tk₂ t₂ => q _ _ _ _ _ _ (({ t₁ with rel := X' } : To prog w h₀ L env _ _ _ _ _ _ _ _ _).trans t₂) rfl
                  · cases v <;> first | rfl | (exact absurd rfl (hT _ _ _)) | (exact absurd rfl (hC _ _ _ _))
              · cases h
            · cases h
  case AugAssign tg op v p =>
    cases tg <;> (try (exact no_some (α := Fl × St) h))
    case Name x xp =>
      dsimp only [sta] at h
      split at h
      · next a hl =>
        split at h
        · next b σ₁ hv =>
          split at h
          · next c σ₂ hi =>
            cases hs : store sc σ₂ x c with
            | none => rw [hs] at h; cases h
            | some σ₃ =>
              rw [hs] at h; cases h
              intro A₀ A base h₀ outer fenv env L m ρ led hh tk z Q E R X q
              refine wpAny_AugAssign_Name ?_
              refine snd_load (n := n + 1) T hl _ _ _ _ _ _ _ _ _ _ _ _ _ _ _ _ R X fun ρ₁ m₁ led₁ h₁ tk₁ va t₁ V₁ => ?_
              refine exV_ok G hv _ _ _ _ _ _ _ _ _ _ _ _ _ _ _ _ R.weak t₁.rel fun ρ₂ m₂ led₂ h₂ tk₂ vb t₂ V₂ => ?_
              refine snd_inpl hi t₂.rel (V₁.to t₂.pre) V₂ fun ρ₃ m₃ led₃ h₃ tk₃ vc t₃ V₃ => ?_
              exact snd_store hs R t₃.rel V₃ fun ρ₄ m₄ led₄ h₄ tk₄ t₄ => q _ _ _ _ _ _ (((t₁.trans t₂).trans t₃).trans t₄) rfl
          · cases h
        · cases h
      · cases h
    case Attribute o x xp =>
      dsimp only [sta] at h
      split at h
      · next ov σ₁ ho =>
        split at h
        · next old hg =>
          split at h
          · next b σ₂ hv =>
            split at h
            · next c σ₃ hi =>
              cases hs : setAttr tp σ₃ ov x c with
              | none => rw [hs] at h; cases h
              | some σ₄ =>
                rw [hs] at h; cases h
                intro A₀ A base h₀ outer fenv env L m ρ led hh tk z Q E R X q
                refine wpAny_AugAssign_AttributeAny ?_
                refine exV_ok G ho _ _ _ _ _ _ _ _ _ _ _ _ _ _ _ _ R.weak X fun ρ₁ m₁ led₁ h₁ tk₁ va t₁ V₁ => ?_
                refine snd_getAttr T hg R t₁.rel V₁ fun vold W => ?_
                refine exV_ok G hv _ _ _ _ _ _ _ _ _ _ _ _ _ _ _ _ R.weak t₁.rel fun ρ₂ m₂ led₂ h₂ tk₂ vb t₂ V₂ => ?_
                refine snd_inpl hi t₂.rel (W.to t₂.pre) V₂ fun ρ₃ m₃ led₃ h₃ tk₃ vc t₃ V₃ => ?_
                exact snd_setAttr T hs R t₃.rel ((V₁.to t₂.pre).to t₃.pre) V₃ fun ρ₄ m₄ led₄ h₄ tk₄ t₄ => q _ _ _ _ _ _ (((t₁.trans t₂).trans t₃).trans t₄) rfl
            · cases h
          · cases h
        · cases h
      · cases h
  case If t b o p =>
    dsimp only [sta] at h
    split at h
    · next c σ₁ ha =>
      intro A₀ A base h₀ outer fenv env L m ρ led hh tk z Q E R X q
      refine wpAny_If ?_
      refine exB_ok G ha _ _ _ _ _ _ _ _ _ _ _ _ _ _ _ _ R.weak X fun ρ₁ m₁ led₁ h₁ tk₁ va t₁ V₁ => ?_
      subst V₁
      cases va with
      | true =>
        rw [cond_true] at h
        rw [if_pos rfl]
        exact sts_ok G h _ _ _ _ _ _ _ _ _ _ _ _ _ _ _ _ R.weak t₁.rel fun ρ₂ m₂ led₂ h₂ tk₂ vb t₂ V₂ => q _ _ _ _ _ _ (t₁.trans t₂) V₂
      | false =>
        rw [cond_false] at h
        rw [if_neg (by decide)]
        exact sts_ok G h _ _ _ _ _ _ _ _ _ _ _ _ _ _ _ _ R.weak t₁.rel fun ρ₂ m₂ led₂ h₂ tk₂ vb t₂ V₂ => q _ _ _ _ _ _ (t₁.trans t₂) V₂
    · cases h
  case While t b els p =>
    cases els with
    | cons _ _ => exact no_some (α := Fl × St) h
    | nil =>
      dsimp only [sta] at h
      split at h
      · next f' σ₁ ha => cases h; exact (Lo.wh _ _ _ _ _ _ _ ha).weak
      · cases h
  case For tg it b els p =>
    cases tg <;> (try (exact no_some (α := Fl × St) h))
    case Name x xp =>
      cases els with
      | cons _ _ => exact no_some (α := Fl × St) h
      | nil =>
        dsimp only [sta] at h
        cases hst : isSet it with
        | true => rw [hst] at h; cases h
        | false =>
          rw [hst, cond_false] at h
          split at h
          · next l σ₁ ha =>
            split at h
            · next f' σ₂ hf => cases h; exact (Lo.fo _ _ _ _ _ _ _ _ _ _ _ hst ha hf).weak
            · cases h
          · cases h
  case Return vo p =>
    cases vo with
    | none => exact no_some (α := Fl × St) h
    | some v =>
      dsimp only [sta] at h
      cases hv : exV ih v sc σ with
      | none => rw [hv] at h; cases h
      | some r =>
        rw [hv] at h; cases h
        intro A₀ A base h₀ outer fenv env L m ρ led hh tk z Q E R X q
        refine wpAny_Return_some ?_
        exact exV_ok G hv _ _ _ _ _ _ _ _ _ _ _ _ _ _ _ _ R.weak X fun ρ₁ m₁ led₁ h₁ tk₁ va t₁ V₁ => q _ _ _ _ _ _ t₁ ⟨va, rfl, V₁⟩
end
end Mine
namespace Mine
section
variable {prog : Program} {w : World} {K : Frag} {tp : Tp} {sc : Scope} {n : Nat} {σ σ' σ₁ : St} {ih : Ih}
  {h₀ : Heap} {L : Addr} {env : Env} {m m' : Str → Option Value} {ρ ρ' : List Addr} {led led' : List (Addr × Obj)} {h h' h'' : Heap}
theorem tsa_ok (T : TpOK prog K tp) (G : Good prog w K n ih) {e : PySem.Expr} {b : Bool} (h : tsa tp ih sc σ e = some (b, σ')) : Snd prog w K sc (n + 1) σ σ' (fun env => PySem.isTrue e env (eval e env)) (fun _ t => t = b) := by
  unfold tsa at h
  split at h
  · next x p =>
    cases hx : exB ih x sc σ with
    | none => rw [hx] at h; cases h
    | some r =>
      rw [hx] at h; cases h
      intro A₀ A base h₀ outer fenv env L m ρ led hh tk z Q E R X q
      refine wpAny_isTrue_Not ?_
      exact exB_ok G hx _ _ _ _ _ _ _ _ _ _ _ _ _ _ _ _ R.weak X fun ρ₁ m₁ led₁ h₁ tk₁ va t₁ V₁ => q _ _ _ _ _ _ t₁ (by rw [V₁])
  · next es p =>
    have key : ∀ (es : List PySem.Expr) (σ : St), boolT ih sc true es σ = some (b, σ') → ∀ whole : Env → Sem Value, Snd prog w K sc (n + 1) σ σ' (fun env => PySem.isTrue (.BoolOp .And es p) env (whole env)) (fun _ t => t = b) := by
      intro es
      induction es with
      | nil =>
        intro σ h whole
        cases h
        intro A₀ A base h₀ outer fenv env L m ρ led hh tk z Q E R X q
        exact PyProof.Rows.isTrue_and_nil (q _ _ _ _ _ _ (To.refl X) rfl)
      | cons e r ih' =>
        intro σ h whole
        unfold boolT at h
        split at h
        · next t σ₁ he =>
          intro A₀ A base h₀ outer fenv env L m ρ led hh tk z Q E R X q
          refine PyProof.Rows.isTrue_and ?_
          refine exB_ok G he _ _ _ _ _ _ _ _ _ _ _ _ _ _ _ _ R.weak X fun ρ₁ m₁ led₁ h₁ tk₁ va t₁ V₁ => ?_
          subst V₁
          cases va with
          | true =>
            rw [if_pos rfl]
            exact ih' _ h _ _ _ _ _ _ _ _ _ _ _ _ _ _ _ _ _ R t₁.rel fun ρ₂ m₂ led₂ h₂ tk₂ vb t₂ V₂ => q _ _ _ _ _ _ (t₁.trans t₂) V₂
          | false =>
            rw [if_neg (by decide)]
            cases h
            exact q _ _ _ _ _ _ t₁ rfl
        · cases h
    exact key es σ h _
  · next es p =>
    have key : ∀ (es : List PySem.Expr) (σ : St), boolT ih sc false es σ = some (b, σ') → ∀ whole : Env → Sem Value, Snd prog w K sc (n + 1) σ σ' (fun env => PySem.isTrue (.BoolOp .Or es p) env (whole env)) (fun _ t => t = b) := by
      intro es
      induction es with
      | nil =>
        intro σ h whole
        cases h
        intro A₀ A base h₀ outer fenv env L m ρ led hh tk z Q E R X q
        exact PyProof.Rows.isTrue_or_nil (q _ _ _ _ _ _ (To.refl X) rfl)
      | cons e r ih' =>
        intro σ h whole
        unfold boolT at h
        split at h
        · next t σ₁ he =>
          intro A₀ A base h₀ outer fenv env L m ρ led hh tk z Q E R X q
          refine PyProof.Rows.isTrue_or ?_
          refine exB_ok G he _ _ _ _ _ _ _ _ _ _ _ _ _ _ _ _ R.weak X fun ρ₁ m₁ led₁ h₁ tk₁ va t₁ V₁ => ?_
          subst V₁
          cases va with
          | false =>
            rw [if_neg (by decide)]
            exact ih' _ h _ _ _ _ _ _ _ _ _ _ _ _ _ _ _ _ _ R t₁.rel fun ρ₂ m₂ led₂ h₂ tk₂ vb t₂ V₂ => q _ _ _ _ _ _ (t₁.trans t₂) V₂
          | true =>
            rw [if_pos rfl]
            cases h
            exact q _ _ _ _ _ _ t₁ rfl
        · cases h
    exact key es σ h _
  · next l op r p =>
    cases hb : behindInMarks op r with
    | true => rw [hb] at h; cases h
    | false =>
      rw [hb, cond_false] at h
      split at h
      · next a σ₁ ha =>
        split at h
        · next b' σ₂ hb' =>
          cases hc : cmp tp σ₂ op a b' with
          | none => rw [hc] at h; cases h
          | some t =>
            rw [hc] at h; cases h
            intro A₀ A base h₀ outer fenv env L m ρ led hh tk z Q E R X q
            refine wpAny_isTrue_Compare1 ?_ hb
            refine exV_ok G ha _ _ _ _ _ _ _ _ _ _ _ _ _ _ _ _ R.weak X fun ρ₁ m₁ led₁ h₁ tk₁ va t₁ V₁ => ?_
            refine exV_ok G hb' _ _ _ _ _ _ _ _ _ _ _ _ _ _ _ _ R.weak t₁.rel fun ρ₂ m₂ led₂ h₂ tk₂ vb t₂ V₂ => ?_
            exact snd_cmp T hc R t₂.rel (V₁.to t₂.pre) V₂ fun k => wpAny_truthy_bool (q _ _ _ _ _ _ (t₁.trans t₂) rfl)
        · cases h
      · cases h
  · next e' _ _ _ _ =>
    cases hp : plainTest e with
    | false => rw [hp] at h; cases h
    | true =>
      rw [hp, cond_true] at h
      split at h
      · next a σ₁ ha =>
        cases ht : truth σ₁ a with
        | none => rw [ht] at h; cases h
        | some t =>
          rw [ht] at h; cases h
          intro A₀ A base h₀ outer fenv env L m ρ led hh tk z Q E R X q
          refine wpAny_isTrue_value ?_ ?_
          · refine exV_ok G ha _ _ _ _ _ _ _ _ _ _ _ _ _ _ _ _ R.weak X fun ρ₁ m₁ led₁ h₁ tk₁ va t₁ V₁ => ?_
            exact truth_ok ht V₁ (q _ _ _ _ _ _ t₁ rfl)
          · cases e <;> first | rfl | (exact Bool.noConfusion (hp : false = true))
      · cases h
/-- while -/
theorem wh_ok (H : ∀ j, j < n → Good prog w K j (run tp j)) {t : PySem.Expr} {b : List Stmt} {f : Fl} {p : Pos} (hr : run tp n (.wh t b) sc σ = some (.fl f, σ')) : Snd prog w K sc n σ σ' (exec (.While t b [] p)) (fun ρ fl => FRel ρ f fl) := by
  intro A₀ A base h₀ outer fenv env L m ρ led hh tk z Q E R X q
  refine wpAny_While ?_
  refine codeAny_whileLoop (fun k s => k ≤ n ∧ ∃ σ₁ ρ₁ m₁ led₁ h₁ tk₁, s = S z h₁ tk₁ ∧ To prog w h₀ L env σ ρ m led σ₁ ρ₁ m₁ led₁ h₁ ∧ run tp k (.wh t b) sc σ₁ = some (.fl f, σ')) ?_ n ⟨Nat.le_refl n, _, _, _, _, _, _, rfl, To.refl X, hr⟩
  rintro k s ⟨hk, σ₁, ρ₁, m₁, led₁, h₁, tk₁, rfl, t₁, hr₁⟩
  cases k with
  | zero => cases hr₁
  | succ j =>
    have G := H j hk
    have Rj := R.le (Nat.le_of_succ_le hk)
    have hs : step tp (run tp j) (.wh t b) sc σ₁ = some (.fl f, σ') := hr₁
    unfold step at hs
    dsimp only at hs
    split at hs
    · next σ₂ ht =>
      refine exB_ok G ht _ _ _ _ _ _ _ _ _ _ _ _ _ _ _ _ Rj t₁.rel fun ρ₂ m₂ led₂ h₂ tk₂ va t₂ V₂ => ?_
      subst V₂
      rw [if_pos rfl]
      split at hs
      · next σ₃ hb =>
        refine sts_ok G hb _ _ _ _ _ _ _ _ _ _ _ _ _ _ _ _ Rj t₂.rel fun ρ₃ m₃ led₃ h₃ tk₃ vb t₃ V₃ => ?_
        cases V₃
        exact ⟨j, Nat.lt_succ_self j, Nat.le_of_succ_le hk, _, _, _, _, _, _, rfl, (t₁.trans t₂).trans t₃, hs⟩
      · next f' σ₃ hne hb =>
        cases hs
        refine sts_ok G hb _ _ _ _ _ _ _ _ _ _ _ _ _ _ _ _ Rj t₂.rel fun ρ₃ m₃ led₃ h₃ tk₃ vb t₃ V₃ => ?_
        cases f with
        | next => first | exact (hne rfl).elim | exact (hne σ₃).elim
        | ret u =>
          have V₃' := V₃
          obtain ⟨rv, rfl, _⟩ := V₃
          exact q _ _ _ _ _ _ ((t₁.trans t₂).trans t₃) V₃'
      · cases hs
    · next σ₂ ht =>
      cases hs
      refine exB_ok G ht _ _ _ _ _ _ _ _ _ _ _ _ _ _ _ _ Rj t₁.rel fun ρ₂ m₂ led₂ h₂ tk₂ va t₂ V₂ => ?_
      subst V₂
      rw [if_neg (by decide)]
      exact wpAny_execs_nil (q _ _ _ _ _ _ (t₁.trans t₂) rfl)
    · cases hs
/-- a thing is forgotten -/
noncomputable def dropN (a : Addr) (led : List (Addr × Obj)) : List (Addr × Obj) := led.filter fun p => !(p.1 == a)
theorem mem_dropN {a : Addr} {p : Addr × Obj} : p ∈ dropN a led ↔ p ∈ led ∧ p.1 ≠ a := by
  unfold dropN
  rw [List.mem_filter]
  simp
theorem nodup_dropN {a : Addr} : ∀ {led : List (Addr × Obj)}, (led.map (·.1)).Nodup → ((dropN a led).map (·.1)).Nodup
  | [], _ => List.nodup_nil
  | (b, o) :: r, nd => by
    have nd' : b ∉ r.map (·.1) ∧ (r.map (·.1)).Nodup := List.nodup_cons.mp nd
    have ih := nodup_dropN (a := a) nd'.2
    show ((List.filter (fun p => !(p.1 == a)) ((b, o) :: r)).map (·.1)).Nodup
    rw [List.filter_cons]
    split
    · refine List.nodup_cons.mpr ⟨fun e => nd'.1 ?_, ih⟩
      obtain ⟨p, hp, e⟩ := List.mem_map.mp e
      exact List.mem_map.mpr ⟨p, (mem_dropN.mp hp).1, e⟩
    · exact ih
theorem Rel.drop (X : Rel prog w h₀ L env σ ρ m led h) {a : Addr} {ob : Obj} (hm : (a, ob) ∈ led) (ha : a ∉ ρ) (hL : σ.comp = true → a ≠ env.locals) (hd : ∀ its ep, ob ≠ W.listOf its ep) (hx : Heap.ExtBut a h h') :
    Rel prog w h₀ L env σ ρ m (dropN a led) h' := by
  have hn := X.N _ hm
  refine ⟨?_, ?_, nodup_dropN X.nd, X.rln, X.rnd, ?_, ?_, ?_, X.cel, X.low⟩
  · refine ⟨X.F.ns.extBut hx (Ne.symm hn.2.1), fun b o e => hx b o (fun eb => ?_) (X.F.keep b o e), X.F.above⟩
    subst eb; rw [hn.2.2] at e; cases e
  · intro p hp
    have := mem_dropN.mp hp
    exact ⟨hx _ _ this.2 (X.N p this.1).1, (X.N p this.1).2⟩
  · intro b hb
    exact (X.rled b hb).imp (fun ⟨x, hx⟩ => ⟨x, mem_dropN.mpr ⟨hx, fun e => ha (by have e' : b = a := e; rw [← e']; exact hb)⟩⟩) id
  · intro j q hj
    obtain ⟨b, x, h1, h2, h3⟩ := X.hp j q hj
    refine ⟨b, x, h1, mem_dropN.mpr ⟨h2, fun e => ha (by have e' : b = a := e; rw [← e']; exact mem_rho h1)⟩, ?_⟩
    cases q <;> try exact h3
    obtain ⟨h0, la, its, ep, k, t, cs, e1, e2, e3⟩ := h3
    refine ⟨h0, la, its, ep, k, t, cs, e1, mem_dropN.mpr ⟨e2, fun e => ?_⟩, e3⟩
    dsimp only at e
    subst e
    exact hd its ep (uniq X.nd hm e2)
  · have hl := X.loc
    unfold LocRel at hl ⊢
    cases e : σ.comp with
    | false => rw [e] at hl; exact hl
    | true =>
      rw [e] at hl
      obtain ⟨h1, ox, es, ep, h2, h3⟩ := hl
      exact ⟨h1, ox, es, ep, mem_dropN.mpr ⟨h2, Ne.symm (hL e)⟩, h3⟩
theorem To.drop {σ₀ : St} {ρ₀ : List Addr} {m₀ : Str → Option Value} {led₀ : List (Addr × Obj)} (t : To prog w h₀ L env σ₀ ρ₀ m₀ led₀ σ ρ m led h) {a : Addr} {ob : Obj} (hm : (a, ob) ∈ led) (ha : a ∉ ρ) (hL : σ.comp = true → a ≠ env.locals) (hd : ∀ its ep, ob ≠ W.listOf its ep) (hx : Heap.ExtBut a h h')
    (h0 : ∀ p ∈ led₀, p.1 ≠ a) : To prog w h₀ L env σ₀ ρ₀ m₀ led₀ σ ρ m (dropN a led) h' :=
  ⟨t.pre, fun p hp hr hl => ⟨mem_dropN.mpr ⟨(t.keep p hp hr hl).1, h0 p hp⟩, (t.keep p hp hr hl).2⟩, t.same, t.cmp, t.rel.drop hm ha hL hd hx⟩
/-- a new thing is none of the frame's own -/
theorem Rel.ne_locals (X : Rel prog w h₀ L env σ ρ m led h) {a : Addr} (ha : ∀ p ∈ led, p.1 < a) (hL : a ≠ L) : a ≠ env.locals := by
  have hl := X.loc
  unfold LocRel at hl
  cases e : σ.comp with
  | false => rw [e] at hl; rw [hl.1]; exact hL
  | true =>
    rw [e] at hl
    obtain ⟨_, ob, es, ep, h2, _⟩ := hl
    exact Ne.symm (Nat.ne_of_lt (ha _ h2))
noncomputable def IterOb (rl : Addr) (i : Nat) (ob : Obj) : Prop := ob.cls = .type "list_iterator" ∧ ob.data = .fields #[.ref rl, .int i 0]
theorem IterOb.nolist {rl : Addr} {i : Nat} {ob : Obj} (h : IterOb rl i ob) (its : Array Value) (ep : Nat) : ob ≠ W.listOf its ep := by
  rintro rfl
  have e : Value.type "list" = Value.type "list_iterator" := h.1
  exact absurd (Value.type.inj e) (by decide)
theorem folded_no {it : PySem.Expr} (hs : isSet it = false) (env : Env) (x : Value) : foldedSetIterable it env x = pure x := by
  cases it <;> first | rfl | (exact Bool.noConfusion (hs : true = false))
/-- an iterator's turn: what it gives and what stands then -/
theorem turn_ok {A₀ A : Around} {base : Heap} {outer : List Env} {fenv : Env} {z : Shared} {E : Value → Shared → Prop} {tk : Nat} (R : Room K A₀ A base h₀ outer fenv env L sc n) (X : Rel prog w h₀ L env σ ρ m led h)
    {l i k : Nat} {xs : List AV} {wh : Bool} {rl it : Addr} {itob : Obj} (hl : σ.obj l = some (.list xs wh k)) (g : ρ[l]? = some rl) (hm : (it, itob) ∈ led) (hi : it ∉ ρ) (hit : IterOb rl i itob) (hL : it ≠ env.locals)
    {Q : Option Value → Shared → Prop}
    (q1 : ∀ v u h' itob', xs[i]? = some v → VRel ρ v u → Rel prog w h₀ L env σ ρ m (setN it itob' led) h' → (it, itob') ∈ setN it itob' led → IterOb rl (i + 1) itob' → Q (some u) (S z h' tk))
    (q2 : ∀ h', xs[i]? = none → Heap.ExtBut it h h' → Q none (S z h' tk)) (hno : xs[i]? = none → wh = true) : wpAny (model prog w) A (pyNext (.ref it)) Q E (S z h tk) := by
  obtain ⟨ob, hml, its, ep, rfl, g2, g3, g4⟩ := X.obj hl g
  have hI : h.IsListIter it rl i := ⟨itob, (X.N _ hm).1, hit.1, hit.2⟩
  have hLi := list_at X.N hml
  cases hv : xs[i]? with
  | some v =>
    obtain ⟨u, e1, e2⟩ := prel_get g3 hv
    refine wpAny_pyNext_list_item (s := S z h tk) hI hLi (by simpa using e1) fun h' hI' hs => ?_
    obtain ⟨itob', k1, k2, k3⟩ := hI'
    exact q1 v u h' itob' hv e2 (X.pasSet hm hi hL hit.nolist (X.F.change hs (X.N _ hm).2.1 (X.N _ hm).2.2) (news_setN X.nd X.N hm hs k1)) (setN_here hm) ⟨k2, k3⟩
  | none =>
    have hn : its[i]? = none := by
      rw [Array.getElem?_eq_none_iff, g4 (hno hv)]
      exact List.getElem?_eq_none_iff.mp hv
    exact wpAny_pyNext_list_end (s := S z h tk) R.hand hI hLi hn fun h' hx => q2 h' hv hx
theorem keep_of {σ₀ : St} {ρ₀ : List Addr} {m₀ : Str → Option Value} {led₀ : List (Addr × Obj)} (t : To prog w h₀ L env σ₀ ρ₀ m₀ led₀ σ ρ m led h) {a : Addr} {o' : Obj} (h0 : ∀ p ∈ led₀, p.1 ≠ a) (X : Rel prog w h₀ L env σ ρ m (setN a o' led) h') : To prog w h₀ L env σ₀ ρ₀ m₀ led₀ σ ρ m (setN a o' led) h' :=
  ⟨t.pre, fun p hp hr hl => ⟨setN_other (h0 p hp) (t.keep p hp hr hl).1, (t.keep p hp hr hl).2⟩, t.same, t.cmp, X⟩
/-- for -/
theorem fo_ok (H : ∀ j, j < n → Good prog w K j (run tp j)) {x : Str} {px : Pos} {it : PySem.Expr} {b : List Stmt} {l : Nat} {f : Fl} {p : Pos} (hst : isSet it = false) (G : Snd prog w K sc n σ σ₁ (eval it) (fun ρ v => VRel ρ (.ref l) v))
    (hr : run tp n (.fort x b l 0) sc σ₁ = some (.fl f, σ')) : Snd prog w K sc n σ σ' (exec (.For (.Name x px) it b [] p)) (fun ρ fl => FRel ρ f fl) := by
  intro A₀ A base h₀ outer fenv env L m ρ led hh tk z Q E R X q
  refine wpAny_For ?_ (folded_no hst env)
  refine G _ _ _ _ _ _ _ _ _ _ _ _ _ _ _ _ R X fun ρ₁ m₁ led₁ h₁ tk₁ va t₁ V₁ => ?_
  obtain ⟨rl, g1, rfl⟩ := V₁
  have hl0 : ∃ xs wh k, σ₁.obj l = some (.list xs wh k) := by
    cases n with
    | zero => cases hr
    | succ j =>
      have hs : step tp (run tp j) (.fort x b l 0) sc σ₁ = some (.fl f, σ') := hr
      unfold step at hs
      dsimp only at hs
      split at hs
      · next xs wh k ho => exact ⟨xs, wh, k, ho⟩
      · cases hs
  obtain ⟨xs0, wh0, k0, hl0⟩ := hl0
  obtain ⟨ob0, hm0, its0, ep0, rfl, _⟩ := t₁.rel.obj hl0 g1
  refine wpAny_pyIter_list (s := S z h₁ tk₁) (list_at t₁.rel.N hm0) ?_
  have F₁ := t₁.rel.F.push ({ cls := .type "list_iterator", data := .fields #[.ref rl, .int 0 0] } : Obj)
  have N₁ := News.push t₁.rel.F t₁.rel.N ({ cls := .type "list_iterator", data := .fields #[.ref rl, .int 0 0] } : Obj)
  obtain ⟨tp₁, hit₁⟩ := t₁.rel.pas F₁ N₁ (lt_size t₁.rel)
  generalize hit : h₁.objs.size = it0 at *
  have hne : it0 ≠ env.locals := t₁.rel.ne_locals (by rw [← hit]; exact lt_size t₁.rel) (N₁ _ (.head _)).2.1
  have hlt : ∀ p ∈ led₁, p.1 ≠ it0 := fun p hp => Nat.ne_of_lt (by rw [← hit]; exact lt_size t₁.rel p hp)
  refine codeAny_forLoop (fun k s => k ≤ n ∧ ∃ i σ₂ ρ₂ m₂ led₂ h₂ tk₂ itob, s = S z h₂ tk₂ ∧ To prog w h₀ L env σ₁ ρ₁ m₁ led₁ σ₂ ρ₂ m₂ led₂ h₂ ∧ (it0, itob) ∈ led₂ ∧ it0 ∉ ρ₂ ∧ IterOb rl i itob ∧ run tp k (.fort x b l i) sc σ₂ = some (.fl f, σ')) ?_ n
    ⟨Nat.le_refl n, 0, _, _, _, _, _, _, _, rfl, tp₁, .head _, hit₁, ⟨rfl, rfl⟩, hr⟩ (fun v => rfl)
  rintro k s ⟨hk, i, σ₂, ρ₂, m₂, led₂, h₂, tk₂, itob, rfl, t₂, mi, ni, hio, hr₂⟩
  cases k with
  | zero => cases hr₂
  | succ j =>
    have Gj := H j hk
    have Rj := R.le (Nat.le_of_succ_le hk)
    have hs : step tp (run tp j) (.fort x b l i) sc σ₂ = some (.fl f, σ') := hr₂
    unfold step at hs
    dsimp only at hs
    split at hs
    · next xs wh kk ho =>
      have g2 : ρ₂[l]? = some rl := by
        obtain ⟨r, e⟩ := t₂.pre
        rw [e]; exact pre_get g1
      refine turn_ok Rj t₂.rel ho g2 mi ni hio hne ?_ ?_ ?_
      · intro v u h' itob' hv hu X' mi' hio'
        have t₂' := keep_of t₂ hlt X'
        rw [hv] at hs
        dsimp only at hs
        split at hs
        · next σ₃ hst =>
          refine wpAny_assign_Name (snd_store hst Rj X' hu fun ρ₃ m₃ led₃ h₃ tk₃ t₃ => ?_)
          split at hs
          · next σ₄ hb =>
            refine sts_ok Gj hb _ _ _ _ _ _ _ _ _ _ _ _ _ _ _ _ Rj t₃.rel fun ρ₄ m₄ led₄ h₄ tk₄ vb t₄ V₄ => ?_
            cases V₄
            have k3 := t₃.keep _ mi' ni hne
            have k4 := t₄.keep _ k3.1 k3.2 hne
            exact ⟨j, Nat.lt_succ_self j, Nat.le_of_succ_le hk, i + 1, _, _, _, _, _, _, itob', rfl, (t₂'.trans t₃).trans t₄, k4.1, k4.2, hio', hs⟩
          · next f' σ₄ hne' hb =>
            cases hs
            refine sts_ok Gj hb _ _ _ _ _ _ _ _ _ _ _ _ _ _ _ _ Rj t₃.rel fun ρ₄ m₄ led₄ h₄ tk₄ vb t₄ V₄ => ?_
            cases f with
            | next => first | exact (hne' rfl).elim | exact (hne' σ₄).elim
            | ret u =>
              have V₄' := V₄
              obtain ⟨rv, rfl, _⟩ := V₄
              exact q _ _ _ _ _ _ (t₁.trans ((t₂'.trans t₃).trans t₄)) V₄'
          · cases hs
        · cases hs
      · intro h' hv hx
        rw [hv] at hs
        dsimp only at hs
        cases wh with
        | false => cases hs
        | true =>
          cases hs
          exact wpAny_execs_nil (q _ _ _ _ _ _ (t₁.trans (t₂.drop mi ni (fun _ => hne) hio.nolist hx hlt)) rfl)
      · intro hv
        rw [hv] at hs
        cases wh with
        | false => cases hs
        | true => rfl
    · cases hs
end
end Mine
namespace Mine
section
variable {prog : Program} {w : World} {K : Frag} {tp : Tp} {sc : Scope} {n : Nat} {σ σ' σ₁ : St} {ih : Ih}
  {h₀ : Heap} {L : Addr} {env : Env} {m m' : Str → Option Value} {ρ ρ' : List Addr} {led led' : List (Addr × Obj)} {h h' h'' : Heap}
/-- the cells of a block -/
noncomputable def CR (ρ : List Addr) (cs : List (Str × Nat)) (cl : List (Str × Addr)) : Prop := ∀ x i, getN x cs = some i → ∃ a, cl.lookup x = some a ∧ ρ[i]? = some a
theorem CR.cons {cs : List (Str × Nat)} {cl : List (Str × Addr)} (H : CR ρ cs cl) {x : Str} {c : Nat} {a : Addr} (h : ρ[c]? = some a) : CR ρ ((x, c) :: cs) ((x, a) :: cl) := by
  intro y i e
  unfold getN at e
  by_cases ey : y = x
  · subst ey
    rw [sEq_self, cond_true] at e
    cases e
    exact ⟨a, by simp [List.lookup_cons], h⟩
  · rw [sEq_no ey, cond_false] at e
    obtain ⟨b, k1, k2⟩ := H y i e
    have : (y == x) = false := by simpa using ey
    exact ⟨b, by rw [List.lookup_cons, this]; exact k1, k2⟩
theorem clos_loop (hc : ∀ x i, getN x σ.cells = some i → ∃ a, env.cells.lookup x = some a ∧ ρ[i]? = some a) : ∀ {names : List (Str × NameKind)} {acc cs : List (Str × Nat)} {accR : List (Str × Addr)}, compCells σ names acc = some cs → CR ρ acc accR →
    ∃ cl, (forIn names accR (fun x r => match x with | (name, kind) => if (kind == NameKind.free) = true then do let c ← cellOf env name; pure (ForInStep.yield ((name, c) :: r)) else pure (ForInStep.yield r)) : Sem (List (Str × Addr))) = pure cl ∧ CR ρ cs cl
  | [], acc, cs, accR, e, H => by
    cases e
    exact ⟨accR, rfl, H⟩
  | (x, k) :: r, acc, cs, accR, e, H => by
    unfold compCells at e
    rw [List.forIn_cons]
    dsimp only
    by_cases hk : (k == NameKind.free) = true
    · rw [if_pos hk] at e
      split at e
      · next c hcx =>
        obtain ⟨a, k1, k2⟩ := hc x c hcx
        have hcell : cellOf env x = pure a := by unfold cellOf; rw [k1]
        obtain ⟨cl, h1, h2⟩ := clos_loop hc e (H.cons (x := x) k2)
        refine ⟨cl, ?_, h2⟩
        rw [if_pos hk, hcell]
        exact h1
      · cases e
    · rw [if_neg hk] at e
      obtain ⟨cl, h1, h2⟩ := clos_loop hc e H
      refine ⟨cl, ?_, h2⟩
      rw [if_neg hk]
      exact h1
theorem clos_ok {cs : Scope} {cl : List (Str × Nat)} (X : Rel prog w h₀ L env σ ρ m led h) (e : compCells σ cs.names [] = some cl) : ∃ clR, closureFor cs env = pure clR ∧ CR ρ cl clR := by
  obtain ⟨clR, h1, h2⟩ := clos_loop (ρ := ρ) X.cel (accR := []) e (fun x i e => by cases e)
  refine ⟨clR, ?_, h2⟩
  unfold closureFor
  exact congrArg (· >>= fun cs => pure cs) h1
/-- a new frame of names -/
theorem env_new (X : Rel prog w h₀ L env σ ρ m led h) {o : Obj} {mm : Str → Option Value} (hns : h''.Ns h.objs.size mm) (hs : Heap.SameBut h.objs.size (h.push o) h'') (ho : o.isFreed = false) :
    ∃ ob es ep, Fr h₀ L h'' m ∧ News h₀ L h'' ((h.objs.size, ob) :: led) ∧ ob.data = .dict es ep ∧ StrKeys es := by
  obtain ⟨ob, es, ep, g1, g2, g3, _⟩ := hns
  have N₁ := News.push X.F X.N o ho
  have hn := N₁ _ (.head _)
  refine ⟨ob, es, ep, (X.F.push o).change hs hn.2.1 hn.2.2, ?_, g2, g3⟩
  intro p hp
  rcases List.mem_cons.mp hp with rfl | hp'
  · exact ⟨g1, hn.2⟩
  · have := N₁ p (.tail _ hp')
    exact ⟨(hs.2 _ (Nat.ne_of_lt (lt_size X p hp'))).trans this.1, this.2⟩
/-- the gathering loop -/
theorem compt_ok (T : TpOK prog K tp) (H : ∀ j, j < n → Good prog w K j (run tp j)) {scc : Scope} {x y : Str} {px ey : Pos} {ifs : List PySem.Expr} {itE : PySem.Expr} {l acc : Nat} {a : AV} {cs0 : Scope} {p0 : Pos} {σc σ₄ : St}
    (hxy : x = y) (hdbg : (y == ("__debug__" : Str)) = false)
    {A₀ A : Around} {base : Heap} {outer : List Env} {fenv cenv : Env} {ρc : List Addr} {mc : Str → Option Value} {ledc : List (Addr × Obj)} {hc : Heap} {tkc : Nat} {z : Shared} {it0 rl ra : Addr} {itob0 : Obj} {RR : Result → Shared → Prop}
    (R : Room K A₀ A base h₀ outer fenv cenv L scc n) (X : Rel prog w h₀ L cenv σc ρc mc ledc hc) (g1 : ρc[l]? = some rl) (ga : ρc[acc]? = some ra)
    {ledx : List (Addr × Obj)} (hx0 : To prog w h₀ L cenv σc ρc mc ledx σc ρc mc ledc hc) (hlt : ∀ p ∈ ledx, p.1 ≠ it0)
    (mi0 : (it0, itob0) ∈ ledc) (ni0 : it0 ∉ ρc) (hne : it0 ≠ cenv.locals) (hio0 : IterOb rl 0 itob0)
    (hr : run tp n (.compt x ifs l 0 acc) scc σc = some (.v a, σ₄))
    (q : ∀ ρ' m' led' h' tk', To prog w h₀ L cenv σc ρc mc ledx σ₄ ρ' m' led' h' → a = .ref acc → RR (.ok .next) (S z h' tk')) :
    codeAny (model prog w) A (.compLoop (.ListComp (.Name y ey) [⟨.Name x px, itE, ifs, 0⟩] cs0 p0) 0 (.ref it0) (.ref ra) cenv) RR (S z hc tkc) := by
  refine codeAny_compLoop_tests (fun k s => k ≤ n ∧ ∃ i σ₂ ρ₂ m₂ led₂ h₂ tk₂ itob, s = S z h₂ tk₂ ∧ To prog w h₀ L cenv σc ρc mc ledx σ₂ ρ₂ m₂ led₂ h₂ ∧ (it0, itob) ∈ led₂ ∧ it0 ∉ ρ₂ ∧ IterOb rl i itob ∧ run tp k (.compt x ifs l i acc) scc σ₂ = some (.v a, σ₄)) ?_ n
    ⟨Nat.le_refl n, 0, _, _, _, _, _, _, _, rfl, hx0, mi0, ni0, hio0, hr⟩ (fun v => rfl)
  rintro k s ⟨hk, i, σ₂, ρ₂, m₂, led₂, h₂, tk₂, itob, rfl, t₂, mi, ni, hio, hr₂⟩
  cases k with
  | zero => cases hr₂
  | succ j =>
    have Gj := H j hk
    have Rj := R.le (Nat.le_of_succ_le hk)
    have hs : step tp (run tp j) (.compt x ifs l i acc) scc σ₂ = some (.v a, σ₄) := hr₂
    unfold step at hs
    dsimp only at hs
    have mono : ∀ {σ' ρ' m' led' h'}, To prog w h₀ L cenv σc ρc mc ledx σ' ρ' m' led' h' → ρ'[l]? = some rl ∧ ρ'[acc]? = some ra := by
      intro σ' ρ' m' led' h' t
      obtain ⟨r, e⟩ := t.pre
      rw [e]; exact ⟨pre_get g1, pre_get ga⟩
    split at hs
    · next xs kk ho =>
      refine turn_ok Rj t₂.rel ho (mono t₂).1 mi ni hio hne ?_ ?_ (fun _ => rfl)
      · intro v u h' itob' hv hu X' mi' hio'
        have t₂' := keep_of t₂ hlt X'
        rw [hv] at hs
        dsimp only at hs
        split at hs
        · next σ₃ hst =>
          refine wpAny_assign_Name (snd_store hst Rj X' hu fun ρ₃ m₃ led₃ h₃ tk₃ t₃ => ?_)
          have k3 := t₃.keep _ mi' ni hne
          have tests : ∀ (b : Bool) (σ₅ : St), ifsT (run tp j) scc ifs σ₃ = some (b, σ₅) → ∀ (Q' : Bool → Shared → Prop) (E' : Value → Shared → Prop),
              (∀ ρ₅ m₅ led₅ h₅ tk₅, To prog w h₀ L cenv σ₃ ρ₃ m₃ led₃ σ₅ ρ₅ m₅ led₅ h₅ → Q' b (S z h₅ tk₅)) →
              wpAny (model prog w) A (forIn ifs true fun c r => if r = true then do let ok ← PySem.isTrue c cenv (eval c cenv); pure (ForInStep.yield ok) else pure (ForInStep.yield r)) Q' E' (S z h₃ tk₃) := by
            intro b σ₅ hb Q' E' q'
            unfold ifsT at hb
            split at hb
            · cases hb
              exact wpAny_pure (q' _ _ _ _ _ (To.refl t₃.rel))
            · next c =>
              rw [List.forIn_cons]
              rw [if_pos rfl]
              refine wpAny_bind (wpAny_bind ?_)
              refine exB_ok Gj hb _ _ _ _ _ _ _ _ _ _ _ _ _ _ _ _ Rj t₃.rel fun ρ₅ m₅ led₅ h₅ tk₅ va t₅ V₅ => ?_
              subst V₅
              exact wpAny_pure (wpAny_pure (q' _ _ _ _ _ t₅))
            · cases hb
          split at hs
          · next σ₅ hb =>
            refine tests _ _ hb _ _ fun ρ₅ m₅ led₅ h₅ tk₅ t₅ => ?_
            rw [if_pos rfl]
            split at hs
            · next u' ys nn hlu hacc =>
              cases hbl : Nat.blt nn 900 with
              | false => rw [hbl] at hs; cases hs
              | true =>
                rw [hbl, cond_true] at hs
                have hlt9 := blt_lt hbl
                subst hxy
                refine wpAny_Name (snd_load (n := j) T hlu _ _ _ _ _ _ _ _ _ _ _ _ _ _ _ _ Rj t₅.rel fun ρ₆ m₆ led₆ h₆ tk₆ vu t₆ V₆ => ?_) hdbg
                have tall := ((t₂'.trans t₃).trans t₅).trans t₆
                obtain ⟨ob, hm, its, ep, rfl, g2, g3, g4⟩ := t₆.rel.obj hacc (mono tall).2
                refine append_K (s := S z h₆ tk₆) t₆.rel.F t₆.rel.N (upd_of _ t₆.rel.nd hm) (fun h₇ F' N' => ?_) (by unfold sizeLine; omega)
                have t₇ := t₆.rel.put (o' := .list (ys ++ [u']) true (nn + 1)) hacc (mono tall).2 hm F' N' fun _ => ⟨_, _, rfl, by rw [Array.size_push]; omega, by rw [Array.toList_push]; exact prel_push g3 V₆ (by rw [Array.length_toList]; exact g4 rfl), fun _ => by rw [Array.size_push, g4 rfl, List.length_append]; rfl⟩
                have k5 := t₅.keep _ k3.1 k3.2 hne
                have k6 := t₆.keep _ k5.1 k5.2 hne
                have k7 := t₇.keep _ k6.1 k6.2 hne
                exact ⟨j, Nat.lt_succ_self j, Nat.le_of_succ_le hk, i + 1, _, _, _, _, _, _, itob', rfl, tall.trans t₇, k7.1, k7.2, hio', hs⟩
            · cases hs
          · next σ₅ hb =>
            refine tests _ _ hb _ _ fun ρ₅ m₅ led₅ h₅ tk₅ t₅ => ?_
            rw [if_neg (by decide)]
            have k5 := t₅.keep _ k3.1 k3.2 hne
            exact ⟨j, Nat.lt_succ_self j, Nat.le_of_succ_le hk, i + 1, _, _, _, _, _, _, itob', rfl, (t₂'.trans t₃).trans t₅, k5.1, k5.2, hio', hs⟩
          · cases hs
        · cases hs
      · intro h' hv hx
        rw [hv] at hs
        cases hs
        exact q _ _ _ _ _ (t₂.drop mi ni (fun _ => hne) hio.nolist hx hlt) rfl
    · cases hs
end
end Mine
namespace Mine
section
variable {prog : Program} {w : World} {K : Frag} {tp : Tp} {sc : Scope} {n : Nat} {σ σ' σ₁ : St} {ih : Ih}
  {h₀ : Heap} {L : Addr} {env : Env} {m m' : Str → Option Value} {ρ ρ' : List Addr} {led led' : List (Addr × Obj)} {h h' h'' : Heap}
/-- a block that gathers, up to where its names are let go -/
theorem comp_core (T : TpOK prog K tp) (H : ∀ j, j < n → Good prog w K j (run tp j)) (G : Good prog w K n (run tp n)) {el : PySem.Expr} {gs : List Comprehension} {cs : Scope} {cp : Pos} {a : AV} (h0 : compE (run tp n) sc σ (.ListComp el gs cs cp) = some (a, σ')) :
    ∃ (y : Str) (ey : Pos) (x : Str) (px : Pos) (itE : PySem.Expr) (ifs : List PySem.Expr), el = .Name y ey ∧ gs = [⟨.Name x px, itE, ifs, 0⟩] ∧ isSet itE = false ∧ cs.kind = .function ∧ (∀ x ∈ cs.names, x.2 = .local → cs.names.lookup x.1 = some .local) ∧
    ∀ (A₀ A : Around) (base h₀ : Heap) (outer : List Env) (fenv env : Env) (L : Addr) (m : Str → Option Value) (ρ : List Addr) (led : List (Addr × Obj)) (h : Heap) (tk : Nat) (z : Shared) (RR : Value → Addr → Result → Shared → Prop) (E : Value → Shared → Prop),
      Room K A₀ A base h₀ outer fenv env L sc n → Rel prog w h₀ L env σ ρ m led h →
      (∀ ra C obC ρ' m' led' h' tk', To prog w h₀ L env σ ρ m led σ' ρ' m' led' h' → VRel ρ' a (.ref ra) → (C, obC) ∈ led' → C ∉ ρ' → (∃ es ep, obC.data = .dict es ep ∧ StrKeys es) → C ≠ env.locals → (∀ p ∈ led, p.1 ≠ C) → RR (.ref ra) C (.ok .next) (S z h' tk')) →
      ∃ cl, closureFor cs env = pure cl ∧
        wpAny (model prog w) A (eval itE env) (fun x s₁ => wpAny (model prog w) A (pyIter x) (fun it s₂ => wpAny (model prog w) A (newList []) (fun acc s₃ =>
          wpAny (model prog w) A (newFunctionEnv cs env.globals cl [] env.qual none .none (some env)) (fun cenv s₄ =>
            codeAny (model prog w) A (.compStart (.ListComp el gs cs cp) 0 it acc { cenv with scope := relabel cs env }) (RR acc cenv.locals) s₄) E s₃) E s₂) E s₁) E (S z h tk) := by
  unfold compE at h0
  split at h0
  · next e0 y ey x px itE ifs ia cs' cp' heq =>
    cases heq
    cases hb : (sEqB x y && goodBlock cs && !isSet itE && decide (ia = 0) && !(y == ("__debug__" : Str)) && (cs.names.lookup x == some .local)) with
    | false => rw [hb] at h0; cases h0
    | true =>
      rw [hb, cond_true] at h0
      simp only [Bool.and_eq_true, Bool.not_eq_true', decide_eq_true_eq] at hb
      obtain ⟨⟨⟨⟨⟨hxy, hgb⟩, hset⟩, hia⟩, hdbg⟩, hxl⟩ := hb
      subst hia
      unfold goodBlock at hgb
      simp only [Bool.and_eq_true] at hgb
      obtain ⟨⟨hk1, hk2⟩, hk3⟩ := hgb
      have hkind : cs.kind = .function := beq_iff_eq.mp hk1
      have hcell : ∀ p ∈ cs.names, p.2 ≠ .cell := fun p hp e => by
        have := List.all_eq_true.mp hk2 p hp
        rw [e] at this; cases this
      have hnames : ∀ p ∈ cs.names, p.2 = .local → cs.names.lookup p.1 = some .local := fun p hp e => by
        have := List.all_eq_true.mp hk3 p hp
        rw [e] at this
        exact beq_iff_eq.mp (by simpa using this)
      refine ⟨y, ey, x, px, itE, ifs, rfl, rfl, hset, hkind, hnames, ?_⟩
      intro A₀ A base h₀ outer fenv env L m ρ led hh tk z RR E R X q
      split at h0
      · next l σ₁ hit =>
        split at h0
        · next cl hcl =>
          split at h0
          · next a' σ₄ hrun =>
            cases h0
            obtain ⟨clR, hclos, hCR⟩ := clos_ok X hcl
            refine ⟨clR, hclos, ?_⟩
            refine exV_ok G hit _ _ _ _ _ _ _ _ _ _ _ _ _ _ _ _ R X fun ρ₁ m₁ led₁ h₁ tk₁ va t₁ V₁ => ?_
            obtain ⟨rl, g1, rfl⟩ := V₁
            -- the list is there
            have hl0 : ∃ xs k, σ₁.obj l = some (.list xs true k) := by
              cases n with
              | zero => cases hrun
              | succ j =>
                have hs : step tp (run tp j) (.compt x ifs l 0 σ₁.nxt) (compScope sc cs) { (σ₁.new (.list [] true 0)).2 with locs := [], cells := cl, comp := true } = some (.v a, σ₄) := hrun
                unfold step at hs
                dsimp only at hs
                split at hs
                · next xs k ho =>
                  have ho' : getH l ((σ₁.nxt, AO.list [] true 0) :: σ₁.heap) = some (.list xs true k) := ho
                  unfold getH at ho'
                  have hne : l ≠ σ₁.nxt := by
                    have := (List.getElem?_eq_some_iff.mp g1).1
                    rw [t₁.rel.rln] at this
                    exact Nat.ne_of_lt this
                  rw [nbeq hne, cond_false] at ho'
                  exact ⟨xs, k, ho'⟩
                · cases hs
            obtain ⟨xs0, k0, hl0⟩ := hl0
            obtain ⟨ob0, hm0, its0, ep0, rfl, _⟩ := t₁.rel.obj hl0 g1
            refine wpAny_pyIter_list (s := S z h₁ tk₁) (list_at t₁.rel.N hm0) ?_
            have F₁ := t₁.rel.F.push ({ cls := .type "list_iterator", data := .fields #[.ref rl, .int 0 0] } : Obj)
            have N₁ := News.push t₁.rel.F t₁.rel.N ({ cls := .type "list_iterator", data := .fields #[.ref rl, .int 0 0] } : Obj)
            obtain ⟨tp₁, hit₁⟩ := t₁.rel.pas F₁ N₁ (lt_size t₁.rel)
            have hlt1 := lt_size t₁.rel
            generalize hsz : h₁.objs.size = it0 at *
            generalize h₁.push ({ cls := .type "list_iterator", data := .fields #[.ref rl, .int 0 0] } : Obj) = h₁' at *
            -- the new list
            refine newList_K (s := S z h₁' tk₁) tp₁.rel.F tp₁.rel.N (fun ra h₂ F₂ N₂ hra => ?_) (by simp)
            have t₂ := tp₁.rel.add (o := .list [] true 0) F₂ N₂ hra ⟨_, _, rfl, by simp, by unfold PRel; trivial, fun _ => by simp⟩
            -- the names
            refine wpAny_newFunctionEnv (s := S z h₂ tk₁) hcell (by intro y hy; simp at hy) (fun h₃ hns hsb => ?_) hkind
            obtain ⟨obC, es, ep, F₃, N₃, hd, hsk⟩ := env_new t₂.rel hns hsb rfl
            have hlt2 := lt_size t₂.rel
            obtain ⟨t₃, hC₃⟩ := t₂.rel.pas F₃ N₃ hlt2
            generalize hszC : h₂.objs.size = C at *
            have hcl0 : env.locals ≠ C := Ne.symm (t₂.rel.ne_locals hlt2 (N₃ _ (.head _)).2.1)
            have hitC : it0 ≠ C := Nat.ne_of_lt (hlt2 (it0, _) (.tail _ (.head _)))
            have hraC : ra ≠ C := Nat.ne_of_lt (hlt2 (ra, _) (.head _))
            have hitra : it0 ≠ ra := Nat.ne_of_lt (hra (it0, _) (.head _))
            -- the block's own state
            have Xc : Rel prog w h₀ L (compEnvC cs clR C env) { (σ₁.new (.list [] true 0)).2 with locs := [], cells := cl, comp := true } (ρ₁ ++ [ra]) m₁ ((C, obC) :: (ra, W.listOf ([] : List Value).toArray 0) :: (it0, ({ cls := .type "list_iterator", data := .fields #[.ref rl, .int 0 0] } : Obj)) :: led₁) h₃ := by
              refine { t₃.rel with loc := ?_, cel := ?_ }
              · exact ⟨hC₃, obC, es, ep, .head _, hd, hsk, fun x v e => by cases e⟩
              · intro x i e
                obtain ⟨c, k1, k2⟩ := hCR x i e
                obtain ⟨r, e'⟩ := t₁.pre
                exact ⟨c, k1, by rw [e', List.append_assoc]; exact pre_get k2⟩
            have Rc : Room K A₀ A base h₀ outer fenv (compEnvC cs clR C env) L (compScope sc cs) n := by
              refine { R with esc := ?_, ekind := ?_, eglob := R.eglob, ebl := R.ebl }
              · have := R.esc; subst this; rfl
              · exact hkind
            have hx0 : To prog w h₀ L (compEnvC cs clR C env) { (σ₁.new (.list [] true 0)).2 with locs := [], cells := cl, comp := true } (ρ₁ ++ [ra]) m₁ (dropN it0 ((C, obC) :: (ra, W.listOf ([] : List Value).toArray 0) :: (it0, ({ cls := .type "list_iterator", data := .fields #[.ref rl, .int 0 0] } : Obj)) :: led₁)) { (σ₁.new (.list [] true 0)).2 with locs := [], cells := cl, comp := true } (ρ₁ ++ [ra]) m₁ ((C, obC) :: (ra, W.listOf ([] : List Value).toArray 0) :: (it0, ({ cls := .type "list_iterator", data := .fields #[.ref rl, .int 0 0] } : Obj)) :: led₁) h₃ :=
              ⟨⟨[], by simp⟩, fun p hp hr _ => ⟨(mem_dropN.mp hp).1, hr⟩, fun _ => rfl, rfl, Xc⟩
            have nirho : it0 ∉ ρ₁ ++ [ra] := fun e => by
              rcases List.mem_append.mp e with e | e
              · exact hit₁ e
              · exact hitra (by simpa using e)
            have hend : ∀ ρ' m' led' h' tk', To prog w h₀ L (compEnvC cs clR C env) { (σ₁.new (.list [] true 0)).2 with locs := [], cells := cl, comp := true } (ρ₁ ++ [ra]) m₁ (dropN it0 ((C, obC) :: (ra, W.listOf ([] : List Value).toArray 0) :: (it0, ({ cls := .type "list_iterator", data := .fields #[.ref rl, .int 0 0] } : Obj)) :: led₁)) σ₄ ρ' m' led' h' → a = .ref σ₁.nxt → RR (.ref ra) C (.ok .next) (S z h' tk') := by
              intro ρ' m' led' h' tk' t₄ hav
              have hc4 : σ₄.comp = true := t₄.cmp
              have hl4 := t₄.rel.loc
              unfold LocRel at hl4
              rw [hc4] at hl4
              obtain ⟨hC4, obC', es', ep', hmC, hdC, hsC, _⟩ := hl4
              have hm4 : m' = m₁ := t₄.same rfl
              subst hm4
              obtain ⟨r1, e1⟩ := t₁.pre
              obtain ⟨r4, e4⟩ := t₄.pre
              have hkeep : ∀ p ∈ led₁, p.1 ∉ ρ₁ → p ∈ led' ∧ p.1 ∉ ρ' := fun p hp hr => by
                have hp1 : p.1 < it0 := hlt1 p hp
                refine t₄.keep p (mem_dropN.mpr ⟨.tail _ (.tail _ (.tail _ hp)), Nat.ne_of_lt hp1⟩) (fun e => ?_) ?_
                · rcases List.mem_append.mp e with e | e
                  · exact hr e
                  · have e' : p.1 = ra := by simpa using e
                    have := hra p (.tail _ hp); rw [e'] at this; exact Nat.lt_irrefl _ this
                · exact Nat.ne_of_lt (hlt2 p (.tail _ (.tail _ hp)))
              have hv : ∀ v rv, VRel ρ₁ v rv → VRel ρ' v rv := fun v rv h => by
                rw [e4]; exact (h.mono (r := [ra])).mono
              have t5 : To prog w h₀ L env σ₁ ρ₁ m' led₁ { σ₄ with locs := σ₁.locs, cells := σ₁.cells, comp := σ₁.comp } ρ' m' led' h' := by
                refine ⟨⟨[ra] ++ r4, by rw [e4, List.append_assoc]⟩, fun p hp hr _ => hkeep p hp hr, fun _ => rfl, rfl, ?_⟩
                exact { t₄.rel with
                  loc := t₁.rel.loc.of rfl rfl hv hkeep
                  cel := fun x i e => let ⟨c, k1, k2⟩ := t₁.rel.cel x i e; ⟨c, k1, by rw [e4]; exact pre_get (pre_get k2)⟩ }
              refine q ra C obC' ρ' m' led' h' tk' (t₁.trans t5) ?_ hmC hC4 ⟨es', ep', hdC, hsC⟩ (Ne.symm hcl0) fun p hp e => ?_
              · subst hav
                exact ⟨ra, by rw [e4]; exact pre_get (last_rho t₁.rel), rfl⟩
              · -- an old thing is older than the block's names
                have old : ∀ b ob, (b, ob) ∈ led₁ → b ≠ C := fun b ob hb => Nat.ne_of_lt (hlt2 (b, ob) (.tail _ (.tail _ hb)))
                by_cases hp1 : p.1 ∈ ρ
                · have : p.1 ∈ ρ₁ := by rw [e1]; exact List.mem_append_left _ hp1
                  rcases t₁.rel.rled _ this with ⟨ob, hob⟩ | hob
                  · exact old _ _ hob e
                  · obtain ⟨o, ho⟩ := X.low _ hob
                    have := (X.N p hp).2.2
                    rw [ho] at this; cases this
                · by_cases hp2 : p.1 = env.locals
                  · exact hcl0 (hp2.symm.trans e)
                  · exact old p.1 p.2 (t₁.keep p hp hp1 hp2).1 e
            have loop := compt_ok T H (x := x) (y := y) (px := px) (ey := ey) (ifs := ifs) (itE := itE) (l := l) (acc := σ₁.nxt) (a := a) (cs0 := cs) (p0 := cp) (σ₄ := σ₄) (sEq_iff.mp hxy) hdbg (z := z) (tkc := tk₁ + ([] : List (Str × Value)).length) (RR := RR (.ref ra) C) Rc Xc (rl := rl) (by exact pre_get g1) (last_rho t₁.rel) hx0
              (fun p hp => (mem_dropN.mp hp).2) (.tail _ (.tail _ (.head _))) nirho (by exact hitC) ⟨rfl, rfl⟩ hrun hend
            have hitm : ((it0, ({ cls := .type "list_iterator", data := .fields #[.ref rl, .int 0 0] } : Obj))) ∈ (C, obC) :: (ra, W.listOf ([] : List Value).toArray 0) :: (it0, ({ cls := .type "list_iterator", data := .fields #[.ref rl, .int 0 0] } : Obj)) :: led₁ := .tail _ (.tail _ (.head _))
            exact codeAny_compStart_list loop (wpAny_pyIter_listiter (s := S z h₃ (tk₁ + ([] : List (Str × Value)).length)) ⟨_, (N₃ _ hitm).1, rfl, rfl⟩ loop)
          · cases h0
        · cases h0
      · cases h0
  · cases h0
end
end Mine
namespace Mine
section
variable {prog : Program} {w : World} {K : Frag} {tp : Tp} {sc : Scope} {n : Nat} {σ σ' σ₁ : St} {ih : Ih}
  {h₀ : Heap} {L : Addr} {env : Env} {m m' : Str → Option Value} {ρ ρ' : List Addr} {led led' : List (Addr × Obj)} {h h' h'' : Heap}
theorem Dict_ns {C : Addr} {obC : Obj} (N : News h₀ L h led) (hm : (C, obC) ∈ led) (hd : ∃ es ep, obC.data = .dict es ep ∧ StrKeys es) : ∃ mm, h.Ns C mm := by
  obtain ⟨es, ep, h1, h2⟩ := hd
  exact ⟨nsFind es, obC, es, ep, (N _ hm).1, h1, h2, fun _ => rfl⟩
theorem dict_nolist {obC : Obj} (hd : ∃ es ep, obC.data = .dict es ep ∧ StrKeys es) (its : Array Value) (ep : Nat) : obC ≠ W.listOf its ep := by
  rintro rfl
  obtain ⟨es, ep, h1, _⟩ := hd
  cases h1
/-- a block that gathers, for its value -/
theorem comp_ok (T : TpOK prog K tp) (H : ∀ j, j < n → Good prog w K j (run tp j)) (G : Good prog w K n (run tp n)) : CompOK prog w K tp n (run tp n) := by
  rintro e sc σ a σ' ⟨el, gs, cs, p, rfl⟩ h
  have h0 : compE (run tp n) sc σ (.ListComp el gs cs p) = some (a, σ') := h
  obtain ⟨y, ey, x, px, itE, ifs, rfl, rfl, hset, hkind, hnames, core⟩ := comp_core T H G h0
  intro A₀ A base h₀ outer fenv env L m ρ led hh tk z Q E R X q
  have hcore := core A₀ A base h₀ outer fenv env L m ρ led hh tk z (fun acc C => compPost (model prog w) A E none Q acc C) E R.weak X ?_
  · obtain ⟨cl, hclos, hw⟩ := hcore
    rw [eval_ListComp]
    exact wpAny_comprehension_free (use := none) rfl (folded_no hset env) hclos hkind hnames hw
  · intro ra C obC ρ' m' led' h' tk' t hv hm hC hd hne hold
    obtain ⟨mm, hns⟩ := Dict_ns t.rel.N hm hd
    refine ⟨mm, hns, fun h'' hs => ?_⟩
    exact q _ _ _ _ _ _ (t.drop hm hC (fun _ => hne) (dict_nolist hd) hs.extBut hold) hv
/-- and for a name -/
theorem cu_ok (T : TpOK prog K tp) (H : ∀ j, j < n → Good prog w K j (run tp j)) {e : PySem.Expr} {y : Str} {py : Pos} {a : AV} (hl : ∃ el gs cs q, e = .ListComp el gs cs q) (h : exV (run tp n) e sc σ = some (a, σ₁)) (hs : store sc σ₁ y a = some σ') :
    Snd prog w K sc n σ σ' (fun env => evalThenUse e env (assign (.Name y py) env)) (fun _ _ => True) := by
  obtain ⟨el, gs, cs, p, rfl⟩ := hl
  cases n with
  | zero => cases h
  | succ j =>
    unfold exV at h
    split at h
    · next a' σ'' hx =>
      cases h
      have hx' : (eva tp (run tp j) sc σ (.ListComp el gs cs p)).map (fun p => (Out.v p.1, p.2)) = some (.v a, σ₁) := hx
      cases he : eva tp (run tp j) sc σ (.ListComp el gs cs p) with
      | none => rw [he] at hx'; cases hx'
      | some r =>
        rw [he] at hx'; cases hx'
        have h0 : compE (run tp j) sc σ (.ListComp el gs cs p) = some (r.1, r.2) := he
        have Hj : ∀ i, i < j → Good prog w K i (run tp i) := fun i hi => H i (Nat.lt_succ_of_lt hi)
        obtain ⟨y', ey, x, px, itE, ifs, rfl, rfl, hset, hkind, hnames, core⟩ := comp_core T Hj (H j (Nat.lt_succ_self j)) h0
        intro A₀ A base h₀ outer fenv env L m ρ led hh tk z Q E R X q
        have hcore := core A₀ A base h₀ outer fenv env L m ρ led hh tk z (fun acc C => compPost (model prog w) A E (some (assign (.Name y py) env)) (fun _ s => Q () s) acc C) E R.weak X ?_
        · obtain ⟨cl, hclos, hw⟩ := hcore
          refine wpAny_bind (wpAny_mono (wpAny_comprehension_free (use := some (assign (.Name y py) env)) (Q := fun _ s => Q () s) rfl (folded_no hset env) hclos hkind hnames hw) (fun _ s hq => wpAny_pure hq) fun _ _ e => e)
        · intro ra C obC ρ' m' led' h' tk' t hv hm hC hd hne hold
          show wpAny _ A (assign (.Name y py) env (.ref ra)) _ E _
          refine wpAny_assign_Name (snd_store hs R t.rel hv fun ρ₂ m₂ led₂ h₂ tk₂ t₂ => ?_)
          have k2 := t₂.keep _ hm hC hne
          obtain ⟨mm, hns⟩ := Dict_ns t₂.rel.N k2.1 hd
          refine ⟨mm, hns, fun h'' hs => ?_⟩
          exact q _ _ _ _ _ _ ((t.trans t₂).drop k2.1 k2.2 (fun _ => hne) (dict_nolist hd) hs.extBut hold) trivial
    · cases h
theorem loops_ok (T : TpOK prog K tp) (H : ∀ j, j < n → Good prog w K j (run tp j)) (G : Good prog w K n (run tp n)) : Loops prog w K tp n (run tp n) :=
  ⟨fun t b sc σ f σ' p h => wh_ok H h, fun x px it b sc σ l σ₁ f σ' p hs he hr => fo_ok H hs (exV_ok G he) hr, fun e y py sc σ a σ₁ σ' hl he hs _ => cu_ok T H hl he hs⟩
end
end Mine
namespace Mine
section
variable {prog : Program} {w : World} {K : Frag} {tp : Tp} {sc : Scope} {n : Nat} {σ σ' σ₁ : St} {ih : Ih}
  {h₀ : Heap} {L : Addr} {env : Env} {m m' : Str → Option Value} {ρ ρ' : List Addr} {led led' : List (Addr × Obj)} {h h' h'' : Heap}
theorem bindL_out {kd : Str → Option NameKind} {x : Str} : ∀ {xs : List Str} {us : List Value} {m : Str → Option Value}, x ∉ xs → bindL kd (xs.zip us) m x = m x
  | [], _, m, _ => rfl
  | y :: r, [], m, _ => rfl
  | y :: r, u :: us, m, hx => by
    show bindL kd (r.zip us) _ x = m x
    rw [bindL_out (fun e => hx (.tail _ e))]
    split
    · have : ¬ x = y := fun e => hx (e ▸ .head _)
      simp [this]
    · rfl
theorem bindC_out {kd : Str → Option NameKind} {x : Str} : ∀ {xs : List Str} {us : List Value} {m : Str → Option Value}, x ∉ xs → bindC kd (xs.zip us) m x = m x
  | [], _, m, _ => rfl
  | y :: r, [], m, _ => rfl
  | y :: r, u :: us, m, hx => by
    show bindC kd (r.zip us) _ x = m x
    rw [bindC_out (fun e => hx (.tail _ e))]
    split
    · rfl
    · have : ¬ x = y := fun e => hx (e ▸ .head _)
      simp [this]
theorem zip_mem {xs : List Str} {as : List AV} {bs : List (Str × AV)} {x : Str} {v : AV} (e : zipP xs as = some bs) (hx : getL x bs = some v) : x ∈ xs := by
  induction xs generalizing as bs with
  | nil =>
    cases as with
    | nil => cases e; cases hx
    | cons _ _ => cases e
  | cons y r ih =>
    cases as with
    | nil => cases e
    | cons a q =>
      unfold zipP at e
      cases hz : zipP r q with
      | none => rw [hz] at e; cases e
      | some bs' =>
        rw [hz] at e; cases e
        have hx' : getL x ((y, a) :: bs') = some v := hx
        unfold getL at hx'
        by_cases exy : x = y
        · exact exy ▸ .head _
        · rw [sEq_no exy, cond_false] at hx'
          exact .tail _ (ih hz hx')
theorem bindLoc_get {bs : List (Str × AV)} {x : Str} {v : AV} (e : getL x (bindLoc sc bs) = some v) : kindOf sc x = some .local := by
  induction bs with
  | nil => cases e
  | cons p r ih =>
    obtain ⟨y, u⟩ := p
    unfold bindLoc at e
    split at e
    · next hk =>
      unfold getL at e
      by_cases exy : x = y
      · rw [exy]; exact hk
      · rw [sEq_no exy, cond_false] at e; exact ih e
    · exact ih e
theorem bindL_rel {kd : Str → Option NameKind} (hkd : ∀ x, kd x = kindOf sc x) : ∀ {xs : List Str} {as : List AV} {us : List Value} {bs : List (Str × AV)} {m : Str → Option Value} {x : Str} {v : AV}, xs.Nodup → LRel ρ as us → zipP xs as = some bs → getL x (bindLoc sc bs) = some v →
    ∃ rv, bindL kd (xs.zip us) m x = some rv ∧ VRel ρ v rv
  | [], as, us, bs, m, x, v, nd, hv, e, hx => by
    cases as with
    | nil => cases e; cases hx
    | cons _ _ => cases e
  | y :: r, as, us, bs, m, x, v, nd, hv, e, hx => by
    cases as with
    | nil => cases e
    | cons a q =>
      cases us with
      | nil => exact hv.elim
      | cons u us =>
        obtain ⟨h1, h2⟩ := hv
        unfold zipP at e
        cases hz : zipP r q with
        | none => rw [hz] at e; cases e
        | some bs' =>
          rw [hz] at e; cases e
          have nd' := List.nodup_cons.mp nd
          have hx' : getL x (bindLoc sc ((y, a) :: bs')) = some v := hx
          show ∃ rv, bindL kd (r.zip us) _ x = some rv ∧ _
          unfold bindLoc at hx'
          split at hx'
          · next hk =>
            unfold getL at hx'
            by_cases exy : x = y
            · subst exy
              rw [sEq_self, cond_true] at hx'
              cases hx'
              refine ⟨u, ?_, h1⟩
              rw [bindL_out nd'.1, if_pos (by rw [hkd]; exact hk), if_pos rfl]
            · rw [sEq_no exy, cond_false] at hx'
              exact bindL_rel hkd nd'.2 h2 hz hx'
          · exact bindL_rel hkd nd'.2 h2 hz hx'
theorem bindC_rel {kd : Str → Option NameKind} (hkd : ∀ x, kd x = kindOf sc x) : ∀ {xs : List Str} {as : List AV} {us : List Value} {bs : List (Str × AV)} {m : Str → Option Value} {x : Str} {v : AV}, xs.Nodup → LRel ρ as us → zipP xs as = some bs → kindOf sc x = some .cell → getL x bs = some v →
    ∃ rv, bindC kd (xs.zip us) m x = some rv ∧ VRel ρ v rv
  | [], as, us, bs, m, x, v, nd, hv, e, hc, hx => by
    cases as with
    | nil => cases e; cases hx
    | cons _ _ => cases e
  | y :: r, as, us, bs, m, x, v, nd, hv, e, hc, hx => by
    cases as with
    | nil => cases e
    | cons a q =>
      cases us with
      | nil => exact hv.elim
      | cons u us =>
        obtain ⟨h1, h2⟩ := hv
        unfold zipP at e
        cases hz : zipP r q with
        | none => rw [hz] at e; cases e
        | some bs' =>
          rw [hz] at e; cases e
          have nd' := List.nodup_cons.mp nd
          have hx' : getL x ((y, a) :: bs') = some v := hx
          show ∃ rv, bindC kd (r.zip us) _ x = some rv ∧ _
          unfold getL at hx'
          by_cases exy : x = y
          · subst exy
            rw [sEq_self, cond_true] at hx'
            cases hx'
            refine ⟨u, ?_, h1⟩
            rw [bindC_out nd'.1, if_neg (by rw [hkd, hc]; decide), if_pos rfl]
          · rw [sEq_no exy, cond_false] at hx'
            exact bindC_rel hkd nd'.2 h2 hz hc hx'
/-- the cells of a frame, one by one -/
theorem cells_rel {cm : Str → Option Value} {bs : List (Str × AV)} (F : Fr h₀ L h m) (hcm : ∀ x v, kindOf sc x = some .cell → getL x bs = some v → ∃ rv, cm x = some rv ∧ VRel ρ v rv) {led0 : List (Addr × Obj)} :
    ∀ {names : List (Str × NameKind)} {k : Nat} {acc : List (Str × Addr)} {cells : List (Addr × Obj)} {cs : List (Str × Nat)} {σ : St},
      (∀ p ∈ names, p.2 = .cell → kindOf sc p.1 = some .cell) → CellsAre cm (cellsFrom k names acc) cells → News h₀ L h (cells ++ led0) →
      ∃ pre accC, cells = pre ++ accC ∧ CellsAre cm acc accC ∧
        ∀ r, (∀ p ∈ accC ++ led0, p.1 < k) → Rel prog w h₀ L env σ (ρ ++ r) m (accC ++ led0) h → CR (ρ ++ r) cs acc →
          ∃ r', Rel prog w h₀ L env (bindCells bs names cs σ).2 (ρ ++ (r ++ r')) m (cells ++ led0) h ∧ CR (ρ ++ (r ++ r')) (bindCells bs names cs σ).1 (cellsFrom k names acc) ∧ (∀ a ∈ r', k ≤ a)
  | [], k, acc, cells, cs, σ, hn, hc, N => ⟨[], cells, rfl, hc, fun r _ X C => ⟨[], by rw [List.append_nil]; exact X, by rw [List.append_nil]; exact C, fun a ha => nomatch ha⟩⟩
  | (x, kd) :: rest, k, acc, cells, cs, σ, hn, hc, N => by
    have hn' : ∀ p ∈ rest, p.2 = .cell → kindOf sc p.1 = some .cell := fun p hp => hn p (.tail _ hp)
    by_cases hk : (kd == NameKind.cell) = true
    · have e1 : cellsFrom k ((x, kd) :: rest) acc = cellsFrom (k + 1) rest ((x, k) :: acc) := by
        show (if (kd == NameKind.cell) = true then _ else _) = _
        rw [if_pos hk]
      have e2 : bindCells bs ((x, kd) :: rest) cs σ = bindCells bs rest ((x, σ.nxt) :: cs) (σ.new (.cell (getL x bs))).2 := by
        show (if (kd == NameKind.cell) = true then _ else _) = _
        rw [if_pos hk]
      rw [e1] at hc
      obtain ⟨pre, accC, hp, hcc, hrest⟩ := cells_rel F hcm (cs := (x, σ.nxt) :: cs) (σ := (σ.new (.cell (getL x bs))).2) hn' hc N
      cases hcc with
      | cons hd htl =>
        next o cells' =>
        refine ⟨pre ++ [(k, o)], cells', by rw [hp, List.append_assoc]; rfl, htl, fun r hlt X C => ?_⟩
        have hN : News h₀ L h ((k, o) :: (cells' ++ led0)) := fun p hp' => N p (by
          rw [hp]
          rcases List.mem_cons.mp hp' with e | e
          · subst e; simp
          · rcases List.mem_append.mp e with e | e
            · simp [e]
            · simp [e])
        have kx : kindOf sc x = some .cell := hn (x, kd) (.head _) (beq_iff_eq.mp hk)
        have t := X.add (o := .cell (getL x bs)) F hN hlt ⟨cm x, hd, fun u hu => by
          obtain ⟨rv, g1, g2⟩ := hcm x u kx hu
          exact ⟨rv, g1, (g2.mono (r := r)).mono (r := [k])⟩⟩
        have hX : Rel prog w h₀ L env (σ.new (.cell (getL x bs))).2 (ρ ++ (r ++ [k])) m ((k, o) :: cells' ++ led0) h := by
          have := t.rel
          rw [List.append_assoc] at this
          exact this
        have hC : CR (ρ ++ (r ++ [k])) ((x, σ.nxt) :: cs) ((x, k) :: acc) := by
          refine CR.cons (fun y i e => ?_) ?_
          · obtain ⟨b, g1, g2⟩ := C y i e
            refine ⟨b, g1, ?_⟩
            rw [← List.append_assoc]; exact pre_get g2
          · rw [← List.append_assoc]; exact last_rho X
        obtain ⟨r', h1, h2, h3⟩ := hrest (r ++ [k]) (fun p hp' => by
          rcases List.mem_cons.mp hp' with e | e
          · subst e; exact Nat.lt_succ_self k
          · exact Nat.lt_succ_of_lt (hlt p e)) hX hC
        refine ⟨[k] ++ r', ?_, ?_, ?_⟩
        · rw [e2]
          have := h1
          rw [List.append_assoc] at this
          exact this
        · rw [e2, e1]
          have := h2
          rw [List.append_assoc] at this
          exact this
        · intro a ha
          rcases List.mem_append.mp ha with e | e
          · have : a = k := by simpa using e
            rw [this]; exact Nat.le_refl k
          · exact Nat.le_of_succ_le (h3 a e)
    · have e1 : cellsFrom k ((x, kd) :: rest) acc = cellsFrom k rest acc := by
        show (if (kd == NameKind.cell) = true then _ else _) = _
        rw [if_neg hk]
      have e2 : bindCells bs ((x, kd) :: rest) cs σ = bindCells bs rest cs σ := by
        show (if (kd == NameKind.cell) = true then _ else _) = _
        rw [if_neg hk]
      rw [e1] at hc
      obtain ⟨pre, accC, hp, hcc, hrest⟩ := cells_rel F hcm (cs := cs) (σ := σ) hn' hc N
      refine ⟨pre, accC, hp, hcc, fun r hlt X C => ?_⟩
      rw [e1, e2]
      exact hrest r hlt X C
end
end Mine
namespace Mine
/-- a function of the top is what the table tells -/
structure FnOK (K : Frag) (a : Addr) (f : Fn) : Prop where
  at_ : ∃ name qual params dV kV doc pm an cdv ct oc od osl, K.lookup a = some ⟨oc, od, .func (fnX name qual params f.body f.scope [] dV kV doc pm an cdv ct), osl⟩ ∧ codeIn K cdv qual = true ∧
    ∀ (s : Shared) (ρ : List Addr) (as as' : List AV) (vs : List Value), K.In s.heap → LRel ρ as vs → padArgs f.params.length as f.dflt = some as' →
      ∃ us, LRel ρ as' us ∧ BindsTo s (fnX name qual params f.body f.scope [] dV kV doc pm an cdv ct) ⟨vs, []⟩ (f.params.zip us)
  kind : f.scope.kind = .function
  co : f.scope.isCoroutine = false
  gen : f.scope.isGenerator = false
  par : ∀ x ∈ f.params, kindOf f.scope x = some .local ∨ (kindOf f.scope x = some .cell ∧ ∀ k, ((cellsFrom k f.scope.names []).lookup x).isSome = true)
  cnd : ((cellsFrom 0 f.scope.names []).map (·.1)).Nodup
  pnd : f.params.Nodup
  cel : ∀ p ∈ f.scope.names, p.2 = .cell → kindOf f.scope p.1 = some .cell
section
variable {prog : Program} {w : World} {K : Frag} {tp : Tp} {sc : Scope} {n : Nat} {σ σ' σ₁ : St} {ih : Ih}
/-- a frame -/
theorem frame_ok (G : Good prog w K n ih) {f : Fn} {fa : Addr} (O : FnOK K fa f) {as : List AV} {a : AV} (h : frame ih f as σ = some (a, σ'))
    {A₀ A : Around} {base h₀ : Heap} {outer : List Env} {fenv env : Env} {L : Addr} {m : Str → Option Value} {ρ : List Addr} {led : List (Addr × Obj)} {hh : Heap} {tk : Nat} {z : Shared} {R : Result → Shared → Prop} {vs : List Value}
    (Ro : Room K A₀ A base h₀ outer fenv env L sc n) (hdp : A.depth + 1 + 4 * n < recursionLimit) (hun : A.units + 3 + 40 * n + 100 < cLine) (X : Rel prog w h₀ L env σ ρ m led hh) (hv : LRel ρ as vs)
    (q : ∀ ρ' m' led' h' tk' v, To prog w h₀ L env σ ρ m led σ' ρ' m' led' h' → VRel ρ' a v → R (.ok (.ret v)) (S z h' tk')) : codeAny (model prog w) A (.call (.ref fa) ⟨vs, []⟩) R (S z hh tk) := by
  unfold frame at h
  split at h
  · cases h
  · next as' hpad =>
    split at h
    · cases h
    · next bs hz =>
      obtain ⟨name, qual, params, dV, kV, doc, pm, an, cdv, ct, oc, od, osl, hlk, hcode, hbind⟩ := O.at_
      have XK := Ro.X.keeps X.F.keep
      obtain ⟨us, hus, hB⟩ := hbind (S z hh tk) ρ as as' vs XK hv hpad
      obtain ⟨p, loose, mg, mb, TR⟩ := Ro.T
      have hmem : ∀ x ∈ f.params.zip us, x.1 ∈ f.params := fun x hx => (List.of_mem_zip hx).1
      refine callX_cells (s := S z hh tk) (news := led) Ro.below X.F X.N TR.nolimit Ro.frames Ro.ffr Ro.fkind (XK _ _ hlk) rfl (codeRec_of XK hcode) (by have := Ro.depth; omega) hB ?_ O.cnd ?_ O.co O.gen O.kind
      · intro k x hx
        rcases O.par x.1 (hmem x hx) with h1 | ⟨h1, h2⟩
        · exact .inl h1
        · exact .inr ⟨h1, h2 k⟩
      · intro g L' h₁ tk₁ cells FG F' N' CA B' st lt
        have Nled : News g L' h₁ led := fun p hp => N' p (List.mem_append_right _ hp)
        have hkd : ∀ x, Env.kindOf (envOfC qual f.scope L' fa cdv) x = kindOf f.scope x := fun x => rfl
        have Xs : Rel prog w g L' (envOfC qual f.scope L' fa cdv) { σ with locs := bindLoc f.scope bs, cells := [], comp := false } ρ _ led h₁ :=
          { F := F', N := Nled, nd := X.nd, rln := X.rln, rnd := X.rnd, rled := X.rled, hp := X.hp, low := fun a ha => let ⟨o, ho⟩ := X.low a ha; ⟨o, st _ _ ho⟩
            loc := ⟨rfl, fun x v e => bindL_rel hkd O.pnd hus hz e⟩
            cel := fun x i e => by cases e }
        obtain ⟨pre, accC, hp, hcc, hrest⟩ := cells_rel (prog := prog) (w := w) (env := envOfC qual f.scope L' fa cdv) (ρ := ρ) (bs := bs) (led0 := led) (sc := f.scope) F' (fun x v k e => bindC_rel hkd O.pnd hus hz k e) (names := f.scope.names) (cs := []) (σ := { σ with locs := bindLoc f.scope bs, cells := [], comp := false }) O.cel CA N'
        cases hcc
        obtain ⟨r', h1, h2, h3⟩ := hrest [] (fun p hp => Nat.lt_succ_of_lt (lt p hp)) (by rw [List.append_nil]; exact Xs) (fun x i e => by cases e)
        rw [List.nil_append] at h1 h2
        have X2 : Rel prog w g L' (envOfC qual f.scope L' fa cdv) { (bindCells bs f.scope.names [] { σ with locs := bindLoc f.scope bs, cells := [], comp := false }).2 with cells := (bindCells bs f.scope.names [] { σ with locs := bindLoc f.scope bs, cells := [], comp := false }).1 } (ρ ++ r') _ (cells ++ led) h₁ := { h1 with cel := h2 }
        have R2 : Room K A (A.deeper (envOfC qual f.scope L' fa cdv)) base g (fenv :: outer) (envOfC qual f.scope L' fa cdv) (envOfC qual f.scope L' fa cdv) L' f.scope n :=
          { below := B', frames := Around.frames_deeper Ro.frames, ffr := rfl, fkind := O.kind, esc := rfl, ekind := O.kind, eglob := rfl, ebl := rfl
            depth := hdp
            units := hun
            hand := Ro.hand, X := Ro.X.keeps st, T := ⟨p, loose, mg, mb, TR.keeps st⟩ }
        split at h
        · next fl σ₂ hb =>
          cases h
          refine sts_ok G hb _ _ _ _ _ _ _ _ _ _ _ _ _ _ _ _ R2 X2 fun ρ₂ m₂ led₂ h₂ tk₂ fl' t V => ?_
          refine leaveK_ t.rel.F t.rel.N fun Fb Nb => ?_
          obtain ⟨r4, e4⟩ := t.pre
          have hkeep : ∀ p ∈ led, p.1 ∉ ρ → p ∈ led₂ ∧ p.1 ∉ ρ₂ := fun p hp hr => by
            have hlt := lt p hp
            refine t.keep p (List.mem_append_right _ hp) (fun e => ?_) (Nat.ne_of_lt hlt)
            rcases List.mem_append.mp e with e | e
            · exact hr e
            · exact Nat.lt_irrefl _ (Nat.lt_of_lt_of_le (Nat.lt_succ_of_lt hlt) (h3 _ e))
          have hvv : ∀ v rv, VRel ρ v rv → VRel ρ₂ v rv := fun v rv h => by rw [e4]; exact (h.mono (r := r')).mono
          have tt : To prog w h₀ L env σ ρ m led { σ₂ with locs := σ.locs, cells := σ.cells, comp := σ.comp } ρ₂ m led₂ h₂ :=
            ⟨⟨r' ++ r4, by rw [e4, List.append_assoc]⟩, fun p hp hr _ => hkeep p hp hr, fun _ => rfl, rfl,
              { t.rel with F := Fb, N := Nb, low := X.low, loc := X.loc.of rfl rfl hvv hkeep, cel := fun x i e => let ⟨c, k1, k2⟩ := X.cel x i e; ⟨c, k1, by rw [e4]; exact pre_get (pre_get k2)⟩ }⟩
          cases fl with
          | next => cases V; exact q _ _ _ _ _ _ tt rfl
          | ret u => obtain ⟨rv, rfl, V⟩ := V; exact q _ _ _ _ _ _ tt V
        · cases h
end
end Mine
namespace Mine
/-- the draw from the script -/
noncomputable def DropOK (prog : Program) (w : World) (K : Frag) (tp : Tp) : Prop := ∀ (sc : Scope) (n : Nat) (σ : St) (i : Nat) (k r : Int) (ds : List (Int × Int)) (A₀ A : Around) (base h₀ : Heap) (outer : List Env) (fenv env : Env) (L : Addr) (m : Str → Option Value) (ρ : List Addr) (led : List (Addr × Obj)) (h : Heap) (tk : Nat) (z : Shared) (Q : Value → Shared → Prop) (E : Value → Shared → Prop) (ra : Addr) (t : Tok),
  Room K A₀ A base h₀ outer fenv env L sc (n + 1) → Rel prog w h₀ L env σ ρ m led h → ¬ (k == 0) = true → σ.obj i = some (.vial ((k, r) :: ds)) → ρ[i]? = some ra →
  (∀ ρ' m' led' h' tk' t', To prog w h₀ L env σ ρ m led (σ.set i (.vial ds)) ρ' m' led' h' → Q (.int r t') (S z h' tk')) → wpAny (model prog w) A (PySem.call (.ref tp.drop) [.ref ra, .int k t] []) Q E (S z h tk)
structure TopOK (prog : Program) (w : World) (K : Frag) (tp : Tp) : Prop where
  T : TpOK prog K tp
  fn : ∀ a f, tp.fn a = some f → FnOK K a f
  cls : ∀ C init, tp.cls C = some init → makesIn K C = true ∧ findIn K (.ref C) "__init__" = some (some (.ref init)) ∧ isFn K (.ref init) = true
  drop : DropOK prog w K tp
section
variable {prog : Program} {w : World} {K : Frag} {tp : Tp} {sc : Scope} {n : Nat} {σ σ' σ₁ : St} {ih : Ih}
theorem under_d (A : Around) (C : Addr) (vals : List Value) : (A.under (.builtin "type.__call__" ⟨.ref C :: vals, []⟩)).depth = A.depth + 1 := depth_under_kw A C vals []
theorem under_u (A : Around) (C : Addr) (vals : List Value) : (A.under (.builtin "type.__call__" ⟨.ref C :: vals, []⟩)).units = A.units + 1 := rfl
theorem under_f (A : Around) (C : Addr) (vals : List Value) : (A.under (.builtin "type.__call__" ⟨.ref C :: vals, []⟩)).frames = A.frames := rfl
theorem call_ok (O : TopOK prog w K tp) (G : Good prog w K n ih) {f : AV} {as : List AV} {a : AV} (h : callA tp ih f as σ = some (a, σ')) : SndC prog w K sc (n + 1) σ σ' f as a := by
  intro A₀ A base h₀ outer fenv env L m ρ led hh tk z Q E fv vs R X hf hv q
  unfold callA at h
  split at h
  · next fa =>
    cases hf
    cases hd : Nat.beq fa tp.drop with
    | true =>
      rw [hd, cond_true] at h
      have hfa : fa = tp.drop := Nat.eq_of_beq_eq_true hd
      subst hfa
      split at h
      · next i k =>
        split at h
        · next k' r ds ho =>
          cases hk : ((k' == k) && !(k == 0)) with
          | false => rw [hk] at h; cases h
          | true =>
            rw [hk] at h; cases h
            rw [Bool.and_eq_true] at hk
            have hk' : k' = k := by simpa using hk.1
            have hk0 : ¬ (k == 0) = true := by have := hk.2; simpa using this
            subst hk'
            match vs, hv with
            | [x, y], ⟨⟨ra, g1, hx⟩, ⟨t, hy⟩, _⟩ =>
              subst hx hy
              exact O.drop sc n σ i _ _ ds A₀ A base h₀ outer fenv env L m ρ led hh tk z Q E ra t R X hk0 ho g1 fun ρ' m' led' h' tk' t' T => q _ _ _ _ _ _ T ⟨t', rfl⟩
        · cases h
      · cases h
    | false =>
      rw [hd, cond_false] at h
      split at h
      · next g hg =>
        refine wpAny_call ?_
        exact frame_ok G (O.fn _ _ hg) h R.weak (by have := R.depth; omega) (by have := R.units; omega) X hv fun ρ' m' led' h' tk' v T V => q _ _ _ _ _ _ T V
      · split at h
        · next init hc =>
          split at h
          · next g hg =>
            split at h
            · next σ₃ hfr =>
              cases h
              obtain ⟨c1, c2, c3⟩ := O.cls _ _ hc
              refine call_cls (s := S z hh tk) X.F R.X X.N c1 c2 c3 fun x dx h' F' N' hlt hx => ?_
              have t₁ := X.add (o := .attrs [] 0) F' (fun p hp => N' p (.tail _ hp)) hlt ⟨[], 0, rfl, Nat.le_refl _, rfl, fun x v e => by cases e⟩
              have t₂ := t₁.rel.add (o := .inst fa σ.nxt) F' N' (fun p hp => by
                rcases List.mem_cons.mp hp with e | e
                · subst e; exact hx
                · exact Nat.lt_trans (hlt p e) hx) ⟨dx, pre_get (last_rho X), rfl⟩
              have t := t₁.trans t₂
              have Ru : Room K A₀ (A.under (.builtin "type.__call__" ⟨.ref fa :: vs, []⟩)) base h₀ outer fenv env L sc n :=
                { R.weak with
                  frames := by rw [under_f]; exact R.frames
                  depth := by have := R.depth; rw [under_d]; omega
                  units := by have := R.units; rw [under_u]; omega }
              refine frame_ok G (O.fn _ _ hg) (vs := .ref x :: vs) hfr Ru (by have := R.depth; rw [under_d]; omega)
                (by have := R.units; rw [under_u]; omega) t.rel ⟨⟨x, last_rho t₁.rel, rfl⟩, hv.to t.pre⟩ fun ρ' m' led' h' tk' v T V => ?_
              cases V
              refine ⟨rfl, q _ _ _ _ _ _ (t.trans T) ?_⟩
              obtain ⟨r, e⟩ := T.pre
              exact ⟨x, by rw [e]; exact pre_get (last_rho t₁.rel), rfl⟩
            · cases h
          · cases h
        · cases h
  · next nm =>
    cases hf
    cases hl : (nm == "len") with
    | false => rw [hl] at h; cases h
    | true =>
      rw [hl, cond_true] at h
      have hnm : nm = "len" := by simpa using hl
      subst hnm
      split at h
      · next i =>
        split at h
        · next xs kk ho =>
          cases hb : Nat.blt xs.length 900 with
          | false => rw [hb] at h; cases h
          | true =>
            rw [hb] at h; cases h
            have hlt := blt_lt hb
            match vs, hv with
            | [x], ⟨⟨ra, g1, hx⟩, _⟩ =>
              subst hx
              obtain ⟨ob, hm, its, ep, rfl, g2, g3, g4⟩ := X.obj ho g1
              refine KM.len_K (s := S z hh tk) X.N hm (g4 rfl) (by omega) ?_
              exact q _ _ _ _ _ _ (To.refl X) ⟨_, rfl⟩
        · cases h
      · cases h
  · next nm =>
    cases hf
    cases hl : (nm == "dict") with
    | false => rw [hl] at h; cases h
    | true =>
      rw [hl, cond_true] at h
      have hnm : nm = "dict" := by simpa using hl
      subst hnm
      split at h
      · next i =>
        split at h
        · next ik wh kn kk ho =>
          cases hb : Nat.beq kk 0 with
          | false => rw [hb] at h; cases h
          | true =>
            rw [hb] at h; cases h
            match vs, hv with
            | [x], ⟨⟨ra, g1, hx⟩, _⟩ =>
              subst hx
              obtain ⟨p, loose, mg, mb, TR⟩ := R.T
              obtain ⟨ob, hm, lo, g⟩ := X.obj ho g1
              cases ik with
              | true =>
                obtain ⟨kvs, g2, g3, _⟩ := g
                cases nil_of g3 hb
                refine PySem.W.kt_dict_K (s := S z hh tk) (enc := PyData.int) X.F X.N TR.nolimit (TabAt.ofNews X.N hm lo g2 .nil) (by simp) fun d h' o kvs' F' N' hd lo' hD hF => ?_
                cases hF
                exact q _ _ _ _ _ _ (X.add F' N' hd ⟨lo', [], hD, Nat.le_refl _, fun k r e => by cases e; rfl⟩) ⟨d, last_rho X, rfl⟩
              | false =>
                obtain ⟨kvs, g2, g3, _⟩ := g
                cases nil_of g3 hb
                refine PySem.W.kt_dict_K (s := S z hh tk) (enc := PyData.str) X.F X.N TR.nolimit (TabAt.ofNews X.N hm lo g2 .nil) (by simp) fun d h' o kvs' F' N' hd lo' hD hF => ?_
                cases hF
                exact q _ _ _ _ _ _ (X.add F' N' hd ⟨lo', [], hD, Nat.le_refl _, fun k r e => by cases e; rfl⟩) ⟨d, last_rho X, rfl⟩
        · cases h
      · cases h
  · cases h
end
end Mine
namespace Mine
section
variable {prog : Program} {w : World} {K : Frag} {tp : Tp}
theorem good_step (O : TopOK prog w K tp) {n : Nat} (H : ∀ j, j < n → Good prog w K j (run tp j)) (G : Good prog w K n (run tp n)) : Good prog w K (n + 1) (run tp (n + 1)) where
  ex e sc σ a σ' h := by
    have h' : (eva tp (run tp n) sc σ e).map (fun p => (Out.v p.1, p.2)) = some (.v a, σ') := h
    cases he : eva tp (run tp n) sc σ e with
    | none => rw [he] at h'; cases h'
    | some r => rw [he] at h'; cases h'; exact eva_ok O.T G (comp_ok O.T H G) he
  tst e sc σ b σ' h := by
    have h' : (tsa tp (run tp n) sc σ e).map (fun p => (Out.b p.1, p.2)) = some (.b b, σ') := h
    cases he : tsa tp (run tp n) sc σ e with
    | none => rw [he] at h'; cases h'
    | some r => rw [he] at h'; cases h'; exact tsa_ok O.T G he
  st s sc σ f σ' h := by
    have h' : (sta tp (run tp n) sc σ s).map (fun p => (Out.fl p.1, p.2)) = some (.fl f, σ') := h
    cases he : sta tp (run tp n) sc σ s with
    | none => rw [he] at h'; cases h'
    | some r => rw [he] at h'; cases h'; exact sta_ok O.T G (loops_ok O.T H G) he
  call f as sc σ a σ' h := by
    have h' : (callA tp (run tp n) f as σ).map (fun p => (Out.v p.1, p.2)) = some (.v a, σ') := h
    cases he : callA tp (run tp n) f as σ with
    | none => rw [he] at h'; cases h'
    | some r => rw [he] at h'; cases h'; exact call_ok O G he
/-- the evaluator's word is good -/
theorem sound (O : TopOK prog w K tp) (n : Nat) : Good prog w K n (run tp n) := by
  induction n using Nat.strongRecOn with
  | ind n ih =>
    cases n with
    | zero => exact ⟨fun _ _ _ _ _ h => (nomatch h), fun _ _ _ _ _ h => (nomatch h), fun _ _ _ _ _ h => (nomatch h), fun _ _ _ _ _ _ h => (nomatch h)⟩
    | succ n => exact good_step O (fun j hj => ih j (Nat.lt_succ_of_lt hj)) (ih n (Nat.lt_succ_self n))
end
end Mine
namespace Mine
/-- how an object is told with less -/
inductive Sp where
  | same
  | attrs (xs : List Str) (n : Nat)
  | dict (ks : List AK) (n : Nat)
  | list (k n : Nat)
  | bump (n : Nat)
noncomputable def keepL : List Str → List (Str × AV) → List (Str × AV)
  | [], _ => []
  | x :: r, kn => match getL x kn with
    | some v => (x, v) :: keepL r kn
    | none => keepL r kn
noncomputable def keepK (wh : Bool) : List AK → List (AK × Option AV) → List (AK × Option AV)
  | [], _ => []
  | x :: r, kn => match askK wh x kn with
    | some v => (x, v) :: keepK wh r kn
    | none => keepK wh r kn
noncomputable def takeA : Nat → List AV → List AV
  | 0, _ => []
  | _, [] => []
  | n + 1, x :: r => x :: takeA n r
noncomputable def up (n m : Nat) : Nat := bif Nat.blt n m then m else n
noncomputable def Sp.app : Sp → AO → AO
  | .attrs xs n, .attrs kn m => .attrs (keepL xs kn) (up m n)
  | .dict ks n, .dict ik wh kn m => .dict ik false (keepK wh ks kn) (up m n)
  | .list k n, .list xs wh m => .list (takeA k xs) false (up m n)
  | .bump n, .list xs wh m => .list xs wh (up m n)
  | _, o => o
noncomputable def pick : List (Nat × Sp) → List (Nat × AO) → List (Nat × AO)
  | [], _ => []
  | (i, s) :: r, hp => match getH i hp with
    | some o => (i, s.app o) :: pick r hp
    | none => pick r hp
noncomputable def takeH : Nat → List (Nat × AO) → List (Nat × AO)
  | 0, _ => []
  | _, [] => []
  | n + 1, x :: r => x :: takeH n r
noncomputable def dropH : Nat → List (Nat × AO) → List (Nat × AO)
  | 0, l => l
  | _, [] => []
  | n + 1, _ :: r => dropH n r
structure Nm where
  ns : List Str
  sp : List (Nat × Sp)
  k : Nat
  M : Nat
  b : Nat
noncomputable def norm (N : Nm) (σ : St) : St := { locs := keepL N.ns σ.locs, cells := [], comp := σ.comp, heap := pick N.sp (takeH N.k σ.heap) ++ dropH N.k σ.heap, nxt := up σ.nxt N.M }
noncomputable def chk (N : Nm) (σ : St) : Bool := (takeH N.k σ.heap).all (fun p => (N.sp.any (fun q => Nat.beq q.1 p.1)) || (Nat.ble N.b p.1 || Nat.blt p.1 85)) && Nat.ble (up σ.nxt N.M) 460
theorem up_le {n m : Nat} : n ≤ up n m := by
  unfold up
  cases h : Nat.blt n m with
  | true => rw [cond_true]; exact Nat.le_of_lt (blt_lt h)
  | false => rw [cond_false]; exact Nat.le_refl _
theorem getL_keep {x : Str} {v : AV} {kn : List (Str × AV)} : ∀ {xs : List Str}, getL x (keepL xs kn) = some v → getL x kn = some v
  | [], h => by cases h
  | y :: r, h => by
    unfold keepL at h
    split at h
    · next u hu =>
      unfold getL at h
      by_cases e : x = y
      · subst e; rw [sEq_self, cond_true] at h; rw [hu]; exact h
      · rw [sEq_no e, cond_false] at h; exact getL_keep h
    · exact getL_keep h
theorem getK_keep {x : AK} {v : Option AV} {wh : Bool} {kn : List (AK × Option AV)} : ∀ {xs : List AK}, getK x (keepK wh xs kn) = some v → askK wh x kn = some v
  | [], h => by cases h
  | y :: r, h => by
    unfold keepK at h
    split at h
    · next u hu =>
      unfold getK at h
      by_cases e : x = y
      · subst e; rw [same_self, cond_true] at h; rw [hu]; exact h
      · rw [same_no e, cond_false] at h; exact getK_keep h
    · exact getK_keep h
theorem askK_keep {x : AK} {v : Option AV} {wh : Bool} {kn : List (AK × Option AV)} {xs : List AK} (h : askK false x (keepK wh xs kn) = some v) : askK wh x kn = some v := by
  unfold askK at h
  split at h
  · next r hr => cases h; exact getK_keep hr
  · cases h
theorem prel_take {ρ : List Addr} : ∀ {k : Nat} {xs : List AV} {vs : List Value}, PRel ρ xs vs → PRel ρ (takeA k xs) vs
  | 0, _, _, _ => by unfold takeA PRel; trivial
  | k + 1, [], _, _ => by unfold takeA PRel; trivial
  | k + 1, x :: r, v :: q, h => ⟨h.1, prel_take h.2⟩
theorem ORel.app {prog : Program} {w : World} {ρ : List Addr} {led : List (Addr × Obj)} {a : Addr} {ob : Obj} : ∀ {s : Sp} {o : AO}, ORel prog w ρ led a o ob → ORel prog w ρ led a (s.app o) ob := by
  intro s o h
  cases s with
  | same => exact h
  | attrs xs n =>
    cases o <;> try exact h
    obtain ⟨es, ep, h1, h2, h3, h4⟩ := h
    exact ⟨es, ep, h1, Nat.le_trans h2 up_le, h3, fun x v e => h4 x v (getL_keep e)⟩
  | dict ks n =>
    cases o <;> try exact h
    next ik wh kn m =>
    obtain ⟨h1, h2⟩ := h
    refine ⟨h1, ?_⟩
    cases ik with
    | true => obtain ⟨kvs, g1, g2, g3⟩ := h2; exact ⟨kvs, g1, Nat.le_trans g2 up_le, fun k r e => g3 k r (askK_keep e)⟩
    | false => obtain ⟨kvs, g1, g2, g3⟩ := h2; exact ⟨kvs, g1, Nat.le_trans g2 up_le, fun k r e => g3 k r (askK_keep e)⟩
  | list k n =>
    cases o <;> try exact h
    obtain ⟨its, ep, h1, h2, h3, h4⟩ := h
    exact ⟨its, ep, h1, Nat.le_trans h2 up_le, prel_take h3, fun e => nomatch e⟩
  | bump n =>
    cases o <;> try exact h
    obtain ⟨its, ep, h1, h2, h3, h4⟩ := h
    exact ⟨its, ep, h1, Nat.le_trans h2 up_le, h3, h4⟩
theorem getH_app {i : Nat} {o : AO} : ∀ {A B : List (Nat × AO)}, getH i (A ++ B) = some o → getH i A = some o ∨ (getH i A = none ∧ getH i B = some o)
  | [], B, h => .inr ⟨rfl, h⟩
  | (j, p) :: r, B, h => by
    have h' : (bif Nat.beq i j then some p else getH i (r ++ B)) = some o := h
    show (bif Nat.beq i j then some p else getH i r) = some o ∨ ((bif Nat.beq i j then some p else getH i r) = none ∧ _)
    cases e : Nat.beq i j with
    | true => rw [e] at h'; exact .inl h'
    | false => rw [e] at h'; exact getH_app h'
theorem getH_left {i : Nat} {o : AO} : ∀ {A B : List (Nat × AO)}, getH i A = some o → getH i (A ++ B) = some o
  | [], B, h => by cases h
  | (j, p) :: r, B, h => by
    have h' : (bif Nat.beq i j then some p else getH i r) = some o := h
    show (bif Nat.beq i j then some p else getH i (r ++ B)) = some o
    cases e : Nat.beq i j with
    | true => rw [e] at h'; exact h'
    | false => rw [e] at h'; exact getH_left h'
theorem getH_right {i : Nat} : ∀ {A B : List (Nat × AO)}, getH i A = none → getH i (A ++ B) = getH i B
  | [], B, h => rfl
  | (j, p) :: r, B, h => by
    have h' : (bif Nat.beq i j then some p else getH i r) = none := h
    show (bif Nat.beq i j then some p else getH i (r ++ B)) = _
    cases e : Nat.beq i j with
    | true => rw [e] at h'; cases h'
    | false => rw [e] at h'; exact getH_right h'
theorem take_drop : ∀ (k : Nat) (l : List (Nat × AO)), takeH k l ++ dropH k l = l
  | 0, l => rfl
  | k + 1, [] => rfl
  | k + 1, x :: r => by show x :: (takeH k r ++ dropH k r) = _; rw [take_drop k r]
theorem getH_pick {i : Nat} {o : AO} {hp : List (Nat × AO)} : ∀ {sp : List (Nat × Sp)}, getH i (pick sp hp) = some o → ∃ p s, getH i hp = some p ∧ o = Sp.app s p
  | [], h => by cases h
  | (j, s) :: r, h => by
    unfold pick at h
    split at h
    · next p hp' =>
      unfold getH at h
      by_cases e : i = j
      · subst e; rw [Nat.beq_refl, cond_true] at h; cases h; exact ⟨p, s, hp', rfl⟩
      · rw [nbeq e, cond_false] at h; exact getH_pick h
    · exact getH_pick h
theorem pick_some {i : Nat} {hp : List (Nat × AO)} : ∀ {sp : List (Nat × Sp)}, (sp.any fun q => Nat.beq q.1 i) = true → getH i (pick sp hp) = none → getH i hp = none
  | [], h, _ => by cases h
  | (j, s) :: r, h, h2 => by
    unfold pick at h2
    by_cases e : i = j
    · subst e
      split at h2
      · next p hp' => unfold getH at h2; rw [Nat.beq_refl, cond_true] at h2; cases h2
      · next hn => exact hn
    · have hr : (r.any fun q => Nat.beq q.1 i) = true := by
        rw [List.any_cons, Bool.or_eq_true] at h
        rcases h with h | h
        · exact absurd (Nat.eq_of_beq_eq_true h).symm e
        · exact h
      split at h2
      · next p hp' => unfold getH at h2; rw [nbeq e, cond_false] at h2; exact pick_some hr h2
      · exact pick_some hr h2
theorem getH_mem {i : Nat} {o : AO} : ∀ {A : List (Nat × AO)}, getH i A = some o → (i, o) ∈ A
  | (j, p) :: r, h => by
    unfold getH at h
    by_cases e : i = j
    · subst e; rw [Nat.beq_refl, cond_true] at h; cases h; exact .head _
    · rw [nbeq e, cond_false] at h; exact .tail _ (getH_mem h)
/-- not all of the small numbers are in a short list -/
theorem small_free : ∀ (B : Nat) (l : List Nat), l.length < B → ∃ a, a < B ∧ a ∉ l
  | 0, _, h => absurd h (Nat.not_lt_zero _)
  | B + 1, l, h => by
    by_cases hB : B ∈ l
    · have : (l.erase B).length < B := by rw [List.length_erase_of_mem hB]; have := List.length_pos_of_mem hB; omega
      obtain ⟨a, h1, h2⟩ := small_free B (l.erase B) this
      exact ⟨a, by omega, fun e => h2 ((List.mem_erase_of_ne (Nat.ne_of_lt h1)).mpr e)⟩
    · exact ⟨B, Nat.lt_succ_self B, hB⟩
section
variable {prog : Program} {w : World} {h₀ : Heap} {L : Addr} {env : Env} {σ σ' : St} {ρ : List Addr} {m : Str → Option Value} {led : List (Addr × Obj)} {h : Heap}
/-- told with less -/
theorem Rel.less (X : Rel prog w h₀ L env σ ρ m led h) (hc : σ.comp = false) (hc' : σ'.comp = false) (hn : σ'.nxt = σ.nxt) (hl : ∀ x v, getL x σ'.locs = some v → getL x σ.locs = some v) (hce : σ'.cells = [])
    (hh : ∀ i o', getH i σ'.heap = some o' → ∃ o s, getH i σ.heap = some o ∧ o' = Sp.app s o) : To prog w h₀ L env σ ρ m led σ' ρ m led h :=
  ⟨⟨[], by simp⟩, fun p a b _ => ⟨a, b⟩, fun _ => rfl, hc'.trans hc.symm, { X with
    rln := X.rln.trans hn.symm
    hp := fun i o' e => by
      obtain ⟨o, s, h1, rfl⟩ := hh i o' e
      obtain ⟨a, ob, g1, g2, g3⟩ := X.hp i o h1
      exact ⟨a, ob, g1, g2, g3.app⟩
    loc := by
      have hl' := X.loc
      unfold LocRel at hl' ⊢
      rw [hc] at hl'; rw [hc']
      exact ⟨hl'.1, fun x v e => hl'.2 x v (hl x v e)⟩
    cel := fun x i e => by rw [hce] at e; cases e }⟩
/-- numbers are passed over -/
theorem Rel.pad1 (X : Rel prog w h₀ L env σ ρ m led h) (hc : σ.comp = false) (hn : σ.nxt < 466) : ∃ a, To prog w h₀ L env σ ρ m led { σ with nxt := σ.nxt + 1 } (ρ ++ [a]) m led h := by
  obtain ⟨a, h1, h2⟩ := small_free 466 ρ (by rw [X.rln]; exact hn)
  have hk : ∀ p ∈ led, p.1 ∉ ρ → p ∈ led ∧ p.1 ∉ ρ ++ [a] := fun p hp hr => ⟨hp, fun e => by
    rcases List.mem_append.mp e with e | e
    · exact hr e
    · have e' : p.1 = a := by simpa using e
      obtain ⟨o, ho⟩ := X.low a h1
      have := (X.N p hp).2.2
      rw [e', ho] at this; cases this⟩
  refine ⟨a, ⟨[a], rfl⟩, fun p hp hr _ => hk p hp hr, fun _ => rfl, rfl, { F := X.F, N := X.N, nd := X.nd, rln := by rw [List.length_append, X.rln]; rfl, rnd := ?_, rled := fun b hb => ?_, hp := fun i o e => ?_, loc := X.loc.of rfl rfl (fun _ _ e => e.mono) hk, cel := fun x i e => ?_, low := X.low }⟩
  · refine List.nodup_append.mpr ⟨X.rnd, by simp, fun x hx y hy e => h2 ?_⟩
    have : y = a := by simpa using hy
    rw [← this, ← e]; exact hx
  · rcases List.mem_append.mp hb with hb | hb
    · exact X.rled b hb
    · have : b = a := by simpa using hb
      exact .inr (this ▸ h1)
  · obtain ⟨b, x, g1, g2, g3⟩ := X.hp i o e
    exact ⟨b, x, pre_get g1, g2, ORel.mono hk g3⟩
  · obtain ⟨c, p, q⟩ := X.cel x i e
    exact ⟨c, p, pre_get q⟩
theorem Rel.padk : ∀ (k : Nat) {σ : St} {ρ : List Addr}, Rel prog w h₀ L env σ ρ m led h → σ.comp = false → σ.nxt + k ≤ 466 → ∃ ρ', To prog w h₀ L env σ ρ m led { σ with nxt := σ.nxt + k } ρ' m led h
  | 0, σ, ρ, X, _, _ => ⟨ρ, To.refl X⟩
  | k + 1, σ, ρ, X, hc, hk => by
    obtain ⟨a, Y⟩ := X.pad1 hc (by omega)
    obtain ⟨ρ', Z⟩ := Rel.padk k Y.rel hc (by show σ.nxt + 1 + k ≤ 466; omega)
    exact ⟨ρ', by have e : σ.nxt + (k + 1) = σ.nxt + 1 + k := by omega
                  rw [e]; exact Y.trans Z⟩
theorem Rel.pad (X : Rel prog w h₀ L env σ ρ m led h) (hc : σ.comp = false) {M : Nat} (h1 : σ.nxt ≤ M) (h2 : M ≤ 466) : ∃ ρ', To prog w h₀ L env σ ρ m led { σ with nxt := M } ρ' m led h := by
  obtain ⟨ρ', Y⟩ := Rel.padk (M - σ.nxt) X hc (by omega)
  exact ⟨ρ', by have e : σ.nxt + (M - σ.nxt) = M := by omega
                rw [e] at Y; exact Y⟩
theorem Rel.norm (X : Rel prog w h₀ L env σ ρ m led h) (hc : σ.comp = false) {N : Nm} (hk : chk N σ = true) {T : List (Nat × AO)} (hT : dropH N.k σ.heap = T) (hb : ∀ g, (N.b ≤ g ∨ g < 85) → getH g T = none) : ∃ ρ', To prog w h₀ L env σ ρ m led (norm N σ) ρ' m led h := by
  unfold chk at hk
  rw [Bool.and_eq_true] at hk
  have h2 : up σ.nxt N.M ≤ 460 := Nat.le_of_ble_eq_true hk.2
  have Y : To prog w h₀ L env σ ρ m led { Mine.norm N σ with nxt := σ.nxt } ρ m led h := by
    refine X.less hc hc rfl (fun x v e => getL_keep e) rfl fun i o' e => ?_
    have e' : getH i (pick N.sp (takeH N.k σ.heap) ++ dropH N.k σ.heap) = some o' := e
    rcases getH_app e' with e1 | ⟨e1, e2⟩
    · obtain ⟨p, s, g1, g2⟩ := getH_pick e1
      exact ⟨p, s, by rw [← take_drop N.k σ.heap]; exact getH_left g1, g2⟩
    · refine ⟨o', .same, ?_, rfl⟩
      rw [← take_drop N.k σ.heap, getH_right]
      · exact e2
      · cases e3 : getH i (takeH N.k σ.heap) with
        | none => rfl
        | some q =>
          have := List.all_eq_true.mp hk.1 _ (getH_mem e3)
          rw [Bool.or_eq_true] at this
          rcases this with g | g
          · have := pick_some (hp := takeH N.k σ.heap) g e1
            rw [e3] at this; cases this
          · have hg : N.b ≤ i ∨ i < 85 := by
              rw [Bool.or_eq_true] at g
              rcases g with g | g
              · exact .inl (Nat.le_of_ble_eq_true g)
              · exact .inr (blt_lt g)
            have := hb i hg
            rw [← hT, e2] at this; cases this
  obtain ⟨ρ', Z⟩ := Y.rel.pad hc (M := up σ.nxt N.M) up_le (by omega)
  exact ⟨ρ', Y.trans Z⟩
end
end Mine
namespace Mine
theorem lookup_zip {xs : List Str} {vs : List Value} : ∀ {x : Str}, x ∈ xs → vs.length = xs.length → ((xs.zip vs).lookup x).isSome = true := by
  induction xs generalizing vs with
  | nil => intro x hx; exact nomatch hx
  | cons y r ih =>
    intro x hx hl
    cases vs with
    | nil => cases hl
    | cons v q =>
      rw [List.zip_cons_cons, List.lookup_cons]
      cases e : x == y with
      | true => rfl
      | false =>
        have : x ∈ r := by
          rcases List.mem_cons.mp hx with e' | h
          · subst e'; simp at e
          · exact h
        exact ih this (by simpa using hl)
theorem filter_zip : ∀ {xs : List Str} {vs : List Value}, xs.Nodup → vs.length = xs.length → (xs.filterMap fun n => ((xs.zip vs).lookup n).map fun v => (n, v)) = xs.zip vs
  | [], vs, _, _ => by simp
  | x :: r, [], _, hl => by cases hl
  | x :: r, v :: q, nd, hl => by
    have nd' := List.nodup_cons.mp nd
    rw [List.zip_cons_cons, List.filterMap_cons]
    have h0 : (((x, v) :: r.zip q).lookup x).map (fun v => (x, v)) = some (x, v) := by simp [List.lookup_cons]
    rw [h0]
    dsimp only
    congr 1
    have ih := filter_zip (vs := q) nd'.2 (by simpa using hl)
    have : ∀ l : List Str, (∀ y ∈ l, y ≠ x) → (l.filterMap fun n => (((x, v) :: r.zip q).lookup n).map fun v => (n, v)) = l.filterMap fun n => ((r.zip q).lookup n).map fun v => (n, v) := by
      intro l
      induction l with
      | nil => intro _; rfl
      | cons y l ih2 =>
        intro hl
        have e : (y == x) = false := by simpa using hl y (.head _)
        rw [List.filterMap_cons, List.filterMap_cons, ih2 fun z hz => hl z (.tail _ hz), List.lookup_cons, e]
    exact (this r fun y hy e => nd'.1 (e ▸ hy)).trans ih
theorem bind_plain (fd : FuncData) (vs : List Value) (xs : List Str) (hx : fd.params.args.map (·.arg) = xs) (h1 : fd.params.posonlyargs = []) (h2 : fd.params.kwonlyargs = []) (h3 : fd.params.vararg = none) (h4 : fd.params.kwarg = none) (hd : fd.defaults = .none) (nd : xs.Nodup) (hl : vs.length = xs.length) :
    bindArgs fd ⟨vs, []⟩ = pure (xs.zip vs) := by
  have hm : (xs.take (xs.length - ([] : List Value).length)).filter (fun n => ((xs.zip vs).lookup n).isNone) = [] := by
    rw [List.filter_eq_nil_iff]
    intro x hx
    have := lookup_zip (List.mem_of_mem_take hx) hl
    cases h : (xs.zip vs).lookup x with
    | none => rw [h] at this; cases this
    | some v => simp
  unfold bindArgs
  simp only [h1, h2, h3, h4, hd, hx, List.map_nil, List.nil_append, List.append_nil, List.forIn_nil, pure_bind]
  have hs : seqItems? Value.none = (pure none : Sem _) := rfl
  rw [hs]
  simp only [pure_bind, Option.getD_none, List.drop_nil, hl]
  rw [if_neg (by simp)]
  rw [hm]
  rw [if_neg (by simp)]
  simp only [List.zip_nil_right]
  simp only [List.forIn_nil, pure_bind]
  rw [filter_zip nd hl]
  rfl
end Mine
namespace Mine
theorem cells_some {x : Str} : ∀ {names : List (Str × NameKind)} {k : Nat} {acc : List (Str × Addr)}, (names.any fun p => p.1 == x && p.2 == .cell) = true ∨ (acc.lookup x).isSome = true → ((cellsFrom k names acc).lookup x).isSome = true
  | [], k, acc, h => by
    rcases h with h | h
    · cases h
    · exact h
  | (y, kd) :: r, k, acc, h => by
    by_cases hk : (kd == NameKind.cell) = true
    · have e1 : cellsFrom k ((y, kd) :: r) acc = cellsFrom (k + 1) r ((y, k) :: acc) := by
        show (if (kd == NameKind.cell) = true then _ else _) = _
        rw [if_pos hk]
      rw [e1]
      apply cells_some
      by_cases e : (x == y) = true
      · exact .inr (by rw [List.lookup_cons, e]; rfl)
      · have e' : (x == y) = false := by simpa using e
        rcases h with h | h
        · rw [List.any_cons, Bool.or_eq_true] at h
          rcases h with h | h
          · rw [Bool.and_eq_true] at h
            have : y = x := beq_iff_eq.mp h.1
            subst this; simp at e'
          · exact .inl h
        · exact .inr (by rw [List.lookup_cons, e']; exact h)
    · have e1 : cellsFrom k ((y, kd) :: r) acc = cellsFrom k r acc := by
        show (if (kd == NameKind.cell) = true then _ else _) = _
        rw [if_neg hk]
      rw [e1]
      apply cells_some
      rcases h with h | h
      · rw [List.any_cons, Bool.or_eq_true] at h
        rcases h with h | h
        · rw [Bool.and_eq_true] at h
          exact absurd h.2 hk
        · exact .inl h
      · exact .inr h
noncomputable def nodupS : List Str → Bool
  | [] => true
  | x :: r => !r.any (sEqB x) && nodupS r
theorem nodupS_ok : ∀ {l : List Str}, nodupS l = true → l.Nodup
  | [], _ => List.nodup_nil
  | x :: r, h => by
    unfold nodupS at h
    rw [Bool.and_eq_true, Bool.not_eq_true'] at h
    refine List.nodup_cons.mpr ⟨fun e => ?_, nodupS_ok h.2⟩
    have := List.any_eq_false.mp h.1 x e
    exact this sEq_self
/-- what a function of the top must be like -/
noncomputable def fnChk (f : Fn) (p : Arguments) : Bool := (f.scope.kind == .function) && !f.scope.isCoroutine && !f.scope.isGenerator &&
  f.params.all (fun x => (kindOf f.scope x == some .local) || ((kindOf f.scope x == some .cell) && f.scope.names.any fun p => p.1 == x && p.2 == .cell)) &&
  nodupS ((cellsFrom 0 f.scope.names []).map (·.1)) && nodupS f.params && f.scope.names.all (fun p => !(p.2 == .cell) || (kindOf f.scope p.1 == some .cell)) &&
  p.posonlyargs.isEmpty && p.kwonlyargs.isEmpty && p.vararg.isNone && p.kwarg.isNone
theorem padArgs_nil {n : Nat} {as as' : List AV} (h : padArgs n as [] = some as') : as' = as ∧ as.length = n := by
  unfold padArgs at h
  cases hb : Nat.beq (as.length + ([] : List AV).length) n with
  | false => rw [hb] at h; cases h
  | true =>
    rw [hb] at h
    have := Nat.eq_of_beq_eq_true hb
    exact ⟨by cases h; simp, by simpa using this⟩
theorem fnOK_of {K : Frag} {a : Addr} {f : Fn} {name qual : Str} {params : Arguments} {doc pm ct cdv oc : Value} {an : Option Addr} {od : Option Addr} {osl : Array (Option Value)} (hf : f.params = params.args.map (·.arg)) (hd : f.dflt = []) (hc : fnChk f params = true)
    (hl : K.lookup a = some ⟨oc, od, .func (fnX name qual params f.body f.scope [] .none .none doc pm an cdv ct), osl⟩) (hcode : codeIn K cdv qual = true) : FnOK K a f := by
  unfold fnChk at hc
  simp only [Bool.and_eq_true, Bool.not_eq_true'] at hc
  obtain ⟨⟨⟨⟨⟨⟨⟨⟨⟨⟨c1, c2⟩, c3⟩, c4⟩, c5⟩, c6⟩, c7⟩, c8⟩, c9⟩, c10⟩, c11⟩ := hc
  have hnd := nodupS_ok c6
  refine ⟨⟨name, qual, params, .none, .none, doc, pm, an, cdv, ct, oc, od, osl, hl, hcode, fun s ρ as as' vs _ hv hp => ?_⟩, beq_iff_eq.mp c1, c2, c3, fun x hx => ?_, nodupS_ok c5, hnd, fun p hp e => ?_⟩
  · rw [hd] at hp
    obtain ⟨rfl, hlen⟩ := padArgs_nil hp
    refine ⟨vs, hv, BindsTo.of_eq (bind_plain _ vs f.params hf.symm (List.isEmpty_iff.mp c8) (List.isEmpty_iff.mp c9) (Option.isNone_iff_eq_none.mp c10) (Option.isNone_iff_eq_none.mp c11) rfl hnd ?_)⟩
    rw [lrel_len hv, hlen]
  · have := List.all_eq_true.mp c4 x hx
    rw [Bool.or_eq_true, Bool.and_eq_true] at this
    rcases this with h | ⟨h1, h2⟩
    · exact .inl (beq_iff_eq.mp h)
    · exact .inr ⟨beq_iff_eq.mp h1, fun k => cells_some (.inl h2)⟩
  · have := List.all_eq_true.mp c7 p hp
    rw [e] at this
    exact beq_iff_eq.mp (by simpa using this)
end Mine
namespace Mine
noncomputable def nthS : List Stmt → Nat → Stmt
  | [], _ => .Pass ⟨0, 0, 0, 0⟩
  | s :: _, 0 => s
  | _ :: r, n + 1 => nthS r n
noncomputable def PW : Program := PySem.Challenge.pw_rg0021_01
noncomputable def stAt (k : Nat) : Stmt := nthS PW.main.body k
noncomputable def inAt (k j : Nat) : Stmt := match stAt k with
  | .ClassDef _ _ _ b _ _ _ _ _ _ _ => nthS b j
  | s => s
noncomputable def fd (s : Stmt) (name qual : Str) (glob : Addr) (clos : List (Str × Addr)) (dv kv doc pm : Value) (an : Option Addr) (cd ct : Value) (bi : Addr) : FuncData := match s with
  | .FunctionDef _ a b _ _ _ sc _ _ _ => { name := name, qualname := qual, params := a, body := .stmts b, scope := sc, globals := glob, closure := clos, defaults := dv, kwdefaults := kv, doc := doc, pyModule := pm, annotations := an, code := cd, closureTuple := ct, builtins := bi }
  | _ => { name := name, qualname := qual, params := ⟨[], [], none, [], [], none, []⟩, body := .stmts [], scope := PW.main.scope, globals := glob, closure := clos, defaults := dv, kwdefaults := kv }
noncomputable def o_2 (P : Params) : Obj := ⟨.none, none, (.dict #[⟨PyData.keyHash P (Str.ofString "type.__subclasses__.Exception.0"), (.str (Str.ofString "type.__subclasses__.Exception.0") 214), (.int (31) 0)⟩, ⟨PyData.keyHash P (Str.ofString "type.__subclasses__.Exception.n"), (.str (Str.ofString "type.__subclasses__.Exception.n") 215), (.int (1) 0)⟩] 2), #[]⟩
noncomputable def o_3 (P : Params) : Obj := ⟨(.type "dict"), none, (.dict #[⟨PyData.keyHash P (Str.ofString "__name__"), (.str (Str.ofString "__name__") 165), (.str (Str.ofString "law_rg0021_01") 871)⟩, ⟨PyData.keyHash P (Str.ofString "__doc__"), (.str (Str.ofString "__doc__") 166), .none⟩, ⟨PyData.keyHash P (Str.ofString "__package__"), (.str (Str.ofString "__package__") 167), .none⟩, ⟨PyData.keyHash P (Str.ofString "__loader__"), (.str (Str.ofString "__loader__") 168), (.builtin "__main__.__loader__#opaque")⟩, ⟨PyData.keyHash P (Str.ofString "__spec__"), (.str (Str.ofString "__spec__") 169), .none⟩, ⟨PyData.keyHash P (Str.ofString "__annotations__"), (.str (Str.ofString "__annotations__") 170), (.ref 6)⟩, ⟨PyData.keyHash P (Str.ofString "__builtins__"), (.str (Str.ofString "__builtins__") 171), (.ref 4)⟩, ⟨PyData.keyHash P (Str.ofString "__file__"), (.str (Str.ofString "__file__") 173), (.str (Str.ofString "/claim/cut.py") 172)⟩, ⟨PyData.keyHash P (Str.ofString "__cached__"), (.str (Str.ofString "__cached__") 174), .none⟩, ⟨PyData.keyHash P (Str.ofString "AdaError"), (.str (Str.ofString "AdaError") 217), (.ref 31)⟩, ⟨PyData.keyHash P (Str.ofString "CheckFault"), (.str (Str.ofString "CheckFault") 243), (.ref 51)⟩, ⟨PyData.keyHash P (Str.ofString "Entity"), (.str (Str.ofString "Entity") 295), (.ref 70)⟩, ⟨PyData.keyHash P (Str.ofString "is_overloadable"), (.str (Str.ofString "is_overloadable") 302), (.ref 81)⟩, ⟨PyData.keyHash P (Str.ofString "homographs"), (.str (Str.ofString "homographs") 310), (.ref 88)⟩, ⟨PyData.keyHash P (Str.ofString "is_operator_sign"), (.str (Str.ofString "is_operator_sign") 317), (.ref 95)⟩, ⟨PyData.keyHash P (Str.ofString "mentions_type"), (.str (Str.ofString "mentions_type") 325), (.ref 102)⟩, ⟨PyData.keyHash P (Str.ofString "SEPARATOR"), (.str (Str.ofString "SEPARATOR") 329), (.str (Str.ofString "#") 328)⟩, ⟨PyData.keyHash P (Str.ofString "unique"), (.str (Str.ofString "unique") 337), (.ref 109)⟩, ⟨PyData.keyHash P (Str.ofString "FRAME_KINDS"), (.str (Str.ofString "FRAME_KINDS") 344), (.ref 110)⟩, ⟨PyData.keyHash P (Str.ofString "Region"), (.str (Str.ofString "Region") 389), (.ref 127)⟩, ⟨PyData.keyHash P (Str.ofString "open_region"), (.str (Str.ofString "open_region") 399), (.ref 138)⟩, ⟨PyData.keyHash P (Str.ofString "encloses"), (.str (Str.ofString "encloses") 408), (.ref 145)⟩, ⟨PyData.keyHash P (Str.ofString "frame_region"), (.str (Str.ofString "frame_region") 416), (.ref 152)⟩, ⟨PyData.keyHash P (Str.ofString "give_unique"), (.str (Str.ofString "give_unique") 426), (.ref 159)⟩, ⟨PyData.keyHash P (Str.ofString "settle_rivals"), (.str (Str.ofString "settle_rivals") 432), (.ref 164)⟩, ⟨PyData.keyHash P (Str.ofString "declare"), (.str (Str.ofString "declare") 440), (.ref 171)⟩, ⟨PyData.keyHash P (Str.ofString "make_ready"), (.str (Str.ofString "make_ready") 447), (.ref 178)⟩, ⟨PyData.keyHash P (Str.ofString "declare_ready"), (.str (Str.ofString "declare_ready") 455), (.ref 185)⟩, ⟨PyData.keyHash P (Str.ofString "note_type"), (.str (Str.ofString "note_type") 463), (.ref 192)⟩, ⟨PyData.keyHash P (Str.ofString "is_hidden"), (.str (Str.ofString "is_hidden") 472), (.ref 199)⟩, ⟨PyData.keyHash P (Str.ofString "immediate_entities"), (.str (Str.ofString "immediate_entities") 478), (.ref 204)⟩, ⟨PyData.keyHash P (Str.ofString "stays_shown"), (.str (Str.ofString "stays_shown") 484), (.ref 209)⟩, ⟨PyData.keyHash P (Str.ofString "is_offered"), (.str (Str.ofString "is_offered") 492), (.ref 216)⟩, ⟨PyData.keyHash P (Str.ofString "offered_operators"), (.str (Str.ofString "offered_operators") 498), (.ref 221)⟩, ⟨PyData.keyHash P (Str.ofString "formals_beside"), (.str (Str.ofString "formals_beside") 504), (.ref 226)⟩, ⟨PyData.keyHash P (Str.ofString "offered_entities"), (.str (Str.ofString "offered_entities") 510), (.ref 231)⟩, ⟨PyData.keyHash P (Str.ofString "look_up"), (.str (Str.ofString "look_up") 516), (.ref 236)⟩, ⟨PyData.keyHash P (Str.ofString "select_from"), (.str (Str.ofString "select_from") 522), (.ref 241)⟩, ⟨PyData.keyHash P (Str.ofString "view_of"), (.str (Str.ofString "view_of") 530), (.ref 248)⟩, ⟨PyData.keyHash P (Str.ofString "ups_to"), (.str (Str.ofString "ups_to") 538), (.ref 255)⟩, ⟨PyData.keyHash P (Str.ofString "Type"), (.str (Str.ofString "Type") 593), (.ref 272)⟩, ⟨PyData.keyHash P (Str.ofString "Subtype"), (.str (Str.ofString "Subtype") 624), (.ref 293)⟩, ⟨PyData.keyHash P (Str.ofString "int_type"), (.str (Str.ofString "int_type") 634), (.ref 304)⟩, ⟨PyData.keyHash P (Str.ofString "derived_type"), (.str (Str.ofString "derived_type") 643), (.ref 311)⟩, ⟨PyData.keyHash P (Str.ofString "numbered"), (.str (Str.ofString "numbered") 651), (.ref 318)⟩, ⟨PyData.keyHash P (Str.ofString "same_type"), (.str (Str.ofString "same_type") 659), (.ref 325)⟩, ⟨PyData.keyHash P (Str.ofString "whole_subtype"), (.str (Str.ofString "whole_subtype") 666), (.ref 332)⟩, ⟨PyData.keyHash P (Str.ofString "seen_class"), (.str (Str.ofString "seen_class") 678), (.ref 339)⟩, ⟨PyData.keyHash P (Str.ofString "seen_type"), (.str (Str.ofString "seen_type") 688), (.ref 346)⟩, ⟨PyData.keyHash P (Str.ofString "named_entities"), (.str (Str.ofString "named_entities") 698), (.ref 353)⟩, ⟨PyData.keyHash P (Str.ofString "frames_to"), (.str (Str.ofString "frames_to") 708), (.ref 360)⟩, ⟨PyData.keyHash P (Str.ofString "refuse"), (.str (Str.ofString "refuse") 718), (.ref 367)⟩, ⟨PyData.keyHash P (Str.ofString "type_entity"), (.str (Str.ofString "type_entity") 727), (.ref 374)⟩, ⟨PyData.keyHash P (Str.ofString "is_settled"), (.str (Str.ofString "is_settled") 737), (.ref 381)⟩, ⟨PyData.keyHash P (Str.ofString "seen_subtype"), (.str (Str.ofString "seen_subtype") 746), (.ref 388)⟩, ⟨PyData.keyHash P (Str.ofString "subtype_here"), (.str (Str.ofString "subtype_here") 755), (.ref 395)⟩, ⟨PyData.keyHash P (Str.ofString "type_named"), (.str (Str.ofString "type_named") 766), (.ref 402)⟩, ⟨PyData.keyHash P (Str.ofString "Scope"), (.str (Str.ofString "Scope") 812), (.ref 419)⟩, ⟨PyData.keyHash P (Str.ofString "Limits"), (.str (Str.ofString "Limits") 870), (.ref 441)⟩, ⟨PyData.keyHash P (Str.ofString "_law_rest"), (.str (Str.ofString "_law_rest") 879), (.ref 446)⟩, ⟨PyData.keyHash P (Str.ofString "_law_drop"), (.str (Str.ofString "_law_drop") 888), (.ref 453)⟩, ⟨PyData.keyHash P (Str.ofString "_law_private"), (.str (Str.ofString "_law_private") 901), (.ref 460)⟩, ⟨PyData.keyHash P (Str.ofString "law"), (.str (Str.ofString "law") 907), (.ref 465)⟩] 63), #[]⟩
noncomputable def o_11 (P : Params) : Obj := let _ := P; ⟨(.type "tuple"), none, (.seq #[] 0), #[]⟩
noncomputable def o_12 (P : Params) : Obj := let _ := P; ⟨.none, none, (.fields #[(.int (2) 0), (.int (0) 0), (.ref 20), (.int (7) 0), (.int (0) 0), (.ref 40), (.int (13) 0), (.int (0) 0), (.ref 59), (.int (33) 0), (.int (0) 0), (.ref 80), (.int (35) 0), (.int (0) 0), (.ref 87), (.int (39) 0), (.int (0) 0), (.ref 94), (.int (41) 0), (.int (0) 0), (.ref 101), (.int (47) 0), (.int (0) 0), (.ref 108), (.int (51) 0), (.int (0) 0), (.ref 116), (.int (70) 0), (.int (0) 0), (.ref 137), (.int (75) 0), (.int (0) 0), (.ref 144), (.int (82) 0), (.int (0) 0), (.ref 151), (.int (87) 0), (.int (0) 0), (.ref 158), (.int (92) 0), (.int (0) 0), (.ref 163), (.int (102) 0), (.int (0) 0), (.ref 170), (.int (113) 0), (.int (0) 0), (.ref 177), (.int (115) 0), (.int (0) 0), (.ref 184), (.int (118) 0), (.int (0) 0), (.ref 191), (.int (120) 0), (.int (0) 0), (.ref 198), (.int (125) 0), (.int (0) 0), (.ref 203), (.int (135) 0), (.int (0) 0), (.ref 208), (.int (142) 0), (.int (0) 0), (.ref 215), (.int (146) 0), (.int (0) 0), (.ref 220), (.int (152) 0), (.int (0) 0), (.ref 225), (.int (158) 0), (.int (0) 0), (.ref 230), (.int (175) 0), (.int (0) 0), (.ref 235), (.int (181) 0), (.int (0) 0), (.ref 240), (.int (195) 0), (.int (0) 0), (.ref 247), (.int (199) 0), (.int (0) 0), (.ref 254), (.int (202) 0), (.int (0) 0), (.ref 261), (.int (229) 0), (.int (0) 0), (.ref 282), (.int (234) 0), (.int (0) 0), (.ref 303), (.int (239) 0), (.int (0) 0), (.ref 310), (.int (259) 0), (.int (0) 0), (.ref 317), (.int (262) 0), (.int (0) 0), (.ref 324), (.int (264) 0), (.int (0) 0), (.ref 331), (.int (267) 0), (.int (0) 0), (.ref 338), (.int (280) 0), (.int (0) 0), (.ref 345), (.int (290) 0), (.int (0) 0), (.ref 352), (.int (300) 0), (.int (0) 0), (.ref 359), (.int (303) 0), (.int (0) 0), (.ref 366), (.int (305) 0), (.int (0) 0), (.ref 373), (.int (310) 0), (.int (0) 0), (.ref 380), (.int (323) 0), (.int (0) 0), (.ref 387), (.int (330) 0), (.int (0) 0), (.ref 394), (.int (335) 0), (.int (0) 0), (.ref 401), (.int (349) 0), (.int (0) 0), (.ref 408), (.int (366) 0), (.int (0) 0), (.ref 429), (.int (378) 0), (.int (0) 0), (.ref 452), (.int (384) 0), (.int (0) 0), (.ref 459), (.int (395) 0), (.int (0) 0), (.ref 464)]), #[]⟩
noncomputable def o_13 (P : Params) : Obj := let _ := P; ⟨(.type "code"), none, (.fields #[(.str (Str.ofString "<module>") 182), (.str (Str.ofString "<module>") 183), (.str (Str.ofString "/claim/cut.py") 184), (.int (1) 0), (.int (0) 0), (.int (0) 0), (.int (0) 0), (.int (0) 0), (.ref 11), (.bool false), (.int (181) 0), (.ref 12), .none, .none, .none, .none, (.int (185) 0), (.int (1) 0), (.str (Str.ofString "/claim/cut.py") 186)]), #[]⟩
noncomputable def o_14 (P : Params) : Obj := let _ := P; ⟨(.type "frame"), none, .plain, #[(some (.ref 13)), (some (.ref 3)), (some (.ref 3)), none, (some (.str (Str.ofString "__main__") 164)), none, (some (.ref 0))]⟩
noncomputable def o_15 (P : Params) : Obj := let _ := P; ⟨(.type "tuple"), none, (.seq #[(.type "Exception")] 0), #[]⟩
noncomputable def o_16 (P : Params) : Obj := let _ := P; ⟨(.type "builtin_function_or_method"), none, (.fields #[(.builtin "type.__prepare__"), (.type "type")]), #[]⟩
noncomputable def o_17 (P : Params) : Obj := ⟨(.type "dict"), none, (.dict #[⟨PyData.keyHash P (Str.ofString "__module__"), (.str (Str.ofString "__module__") 196), (.str (Str.ofString "adacore.errors") 187)⟩, ⟨PyData.keyHash P (Str.ofString "__qualname__"), (.str (Str.ofString "__qualname__") 198), (.str (Str.ofString "AdaError") 197)⟩, ⟨PyData.keyHash P (Str.ofString "__firstlineno__"), (.str (Str.ofString "__firstlineno__") 200), (.int (2) 199)⟩, ⟨PyData.keyHash P (Str.ofString "__init__"), (.str (Str.ofString "__init__") 208), (.ref 28)⟩, ⟨PyData.keyHash P (Str.ofString "__static_attributes__"), (.str (Str.ofString "__static_attributes__") 210), (.ref 29)⟩] 5), #[]⟩
noncomputable def o_18 (P : Params) : Obj := let _ := P; ⟨(.type "tuple"), none, (.seq #[] 0), #[]⟩
noncomputable def o_19 (P : Params) : Obj := let _ := P; ⟨.none, none, (.fields #[(.int (4) 0), (.int (4) 0), (.ref 27)]), #[]⟩
noncomputable def o_20 (P : Params) : Obj := let _ := P; ⟨(.type "code"), none, (.fields #[(.str (Str.ofString "AdaError") 191), (.str (Str.ofString "AdaError") 192), (.str (Str.ofString "/claim/cut.py") 193), (.int (2) 0), (.int (0) 0), (.int (0) 0), (.int (0) 0), (.int (0) 0), (.ref 18), (.bool false), (.int (181) 0), (.ref 19), .none, .none, .none, .none, (.int (194) 0), (.int (2) 0), (.str (Str.ofString "/claim/cut.py") 195)]), #[]⟩
noncomputable def o_21 (P : Params) : Obj := let _ := P; ⟨(.type "frame"), none, .plain, #[(some (.ref 20)), (some (.ref 3)), (some (.ref 17)), none, (some (.str (Str.ofString "adacore.errors") 187)), none, (some (.ref 0))]⟩
noncomputable def o_22 (P : Params) : Obj := let _ := P; ⟨(.type "tuple"), none, (.seq #[] 0), #[]⟩
noncomputable def o_23 (P : Params) : Obj := let _ := P; ⟨.none, none, (.fields #[]), #[]⟩
noncomputable def o_24 (P : Params) : Obj := let _ := P; ⟨(.type "tuple"), none, (.seq #[(.str (Str.ofString "self") 204), (.str (Str.ofString "text") 205)] 0), #[]⟩
noncomputable def o_25 (P : Params) : Obj := let _ := P; ⟨(.type "tuple"), none, (.seq #[] 0), #[]⟩
noncomputable def o_26 (P : Params) : Obj := let _ := P; ⟨.none, none, (.func (fd (inAt 1 0) (Str.ofString "__init__") (Str.ofString "AdaError.__init__") 0 [] .none .none .none .none none .none .none 0)), #[]⟩
noncomputable def o_27 (P : Params) : Obj := let _ := P; ⟨(.type "code"), none, (.fields #[(.str (Str.ofString "__init__") 201), (.str (Str.ofString "AdaError.__init__") 202), (.str (Str.ofString "/claim/cut.py") 203), (.int (4) 0), (.int (2) 0), (.int (0) 0), (.int (0) 0), (.int (3) 0), (.ref 22), (.bool true), (.int (181) 0), (.ref 23), .none, (.ref 24), (.ref 25), (.ref 26), (.int (206) 0), (.int (4) 0), (.str (Str.ofString "/claim/cut.py") 207)]), #[]⟩
noncomputable def o_28 (P : Params) : Obj := let _ := P; ⟨(.type "function"), none, (.func (fd (inAt 1 0) (Str.ofString "__init__") (Str.ofString "AdaError.__init__") 3 [] .none .none .none (.str (Str.ofString "adacore.errors") 187) none (.ref 27) .none 0)), #[]⟩
noncomputable def o_29 (P : Params) : Obj := let _ := P; ⟨(.type "tuple"), none, (.seq #[(.str (Str.ofString "text") 209)] 0), #[]⟩
noncomputable def o_30 (P : Params) : Obj := ⟨(.type "dict"), none, (.dict #[⟨PyData.keyHash P (Str.ofString "__module__"), (.str (Str.ofString "__module__") 196), (.str (Str.ofString "adacore.errors") 187)⟩, ⟨PyData.keyHash P (Str.ofString "__firstlineno__"), (.str (Str.ofString "__firstlineno__") 200), (.int (2) 199)⟩, ⟨PyData.keyHash P (Str.ofString "__init__"), (.str (Str.ofString "__init__") 208), (.ref 28)⟩, ⟨PyData.keyHash P (Str.ofString "__static_attributes__"), (.str (Str.ofString "__static_attributes__") 210), (.ref 29)⟩, ⟨PyData.keyHash P (Str.ofString "__weakref__"), (.str (Str.ofString "__weakref__") 212), (.ref 32)⟩, ⟨PyData.keyHash P (Str.ofString "__doc__"), (.str (Str.ofString "__doc__") 213), .none⟩] 3), #[]⟩
noncomputable def o_31 (P : Params) : Obj := let _ := P; ⟨(.type "type"), none, (.cls ⟨(Str.ofString "AdaError"), [(.type "Exception")], [(.ref 31), (.type "Exception"), (.type "BaseException"), (.type "object")], 30, (Str.ofString "AdaError"), true, [], [(.ref 51)], false, none, false⟩), #[(some (.ref 15)), none, (some (.str (Str.ofString "AdaError") 189)), (some (.str (Str.ofString "AdaError") 197)), (some (.builtin "Exception.__new__")), (some (.bool true))]⟩
noncomputable def o_32 (P : Params) : Obj := let _ := P; ⟨(.type "getset_descriptor"), none, (.fields #[(.str (Str.ofString "__weakref__") 211), (.ref 31), (.builtin "ExceptionGroup.__weakref__"), .none]), #[]⟩
noncomputable def o_33 (P : Params) : Obj := let _ := P; ⟨(.type "super"), none, (.fields #[(.ref 31), (.ref 31), (.ref 31)]), #[]⟩
noncomputable def o_34 (P : Params) : Obj := let _ := P; ⟨(.type "builtin_function_or_method"), none, (.fields #[(.builtin "object.__init_subclass__"), (.ref 31)]), #[]⟩
noncomputable def o_35 (P : Params) : Obj := let _ := P; ⟨(.type "tuple"), none, (.seq #[(.ref 31)] 0), #[]⟩
noncomputable def o_36 (P : Params) : Obj := let _ := P; ⟨(.type "builtin_function_or_method"), none, (.fields #[(.builtin "type.__prepare__"), (.type "type")]), #[]⟩
noncomputable def o_37 (P : Params) : Obj := ⟨(.type "dict"), none, (.dict #[⟨PyData.keyHash P (Str.ofString "__module__"), (.str (Str.ofString "__module__") 225), (.str (Str.ofString "adacore.errors") 187)⟩, ⟨PyData.keyHash P (Str.ofString "__qualname__"), (.str (Str.ofString "__qualname__") 227), (.str (Str.ofString "CheckFault") 226)⟩, ⟨PyData.keyHash P (Str.ofString "__firstlineno__"), (.str (Str.ofString "__firstlineno__") 229), (.int (7) 228)⟩, ⟨PyData.keyHash P (Str.ofString "__init__"), (.str (Str.ofString "__init__") 238), (.ref 48)⟩, ⟨PyData.keyHash P (Str.ofString "__static_attributes__"), (.str (Str.ofString "__static_attributes__") 240), (.ref 49)⟩] 5), #[]⟩
noncomputable def o_38 (P : Params) : Obj := let _ := P; ⟨(.type "tuple"), none, (.seq #[] 0), #[]⟩
noncomputable def o_39 (P : Params) : Obj := let _ := P; ⟨.none, none, (.fields #[(.int (9) 0), (.int (4) 0), (.ref 47)]), #[]⟩
noncomputable def o_40 (P : Params) : Obj := let _ := P; ⟨(.type "code"), none, (.fields #[(.str (Str.ofString "CheckFault") 220), (.str (Str.ofString "CheckFault") 221), (.str (Str.ofString "/claim/cut.py") 222), (.int (7) 0), (.int (0) 0), (.int (0) 0), (.int (0) 0), (.int (0) 0), (.ref 38), (.bool false), (.int (181) 0), (.ref 39), .none, .none, .none, .none, (.int (223) 0), (.int (7) 0), (.str (Str.ofString "/claim/cut.py") 224)]), #[]⟩
noncomputable def o_41 (P : Params) : Obj := let _ := P; ⟨(.type "frame"), none, .plain, #[(some (.ref 40)), (some (.ref 3)), (some (.ref 37)), none, (some (.str (Str.ofString "adacore.errors") 187)), none, (some (.ref 0))]⟩
noncomputable def o_42 (P : Params) : Obj := let _ := P; ⟨(.type "tuple"), none, (.seq #[] 0), #[]⟩
noncomputable def o_43 (P : Params) : Obj := let _ := P; ⟨.none, none, (.fields #[]), #[]⟩
noncomputable def o_44 (P : Params) : Obj := let _ := P; ⟨(.type "tuple"), none, (.seq #[(.str (Str.ofString "self") 233), (.str (Str.ofString "line") 234), (.str (Str.ofString "text") 235)] 0), #[]⟩
noncomputable def o_45 (P : Params) : Obj := let _ := P; ⟨(.type "tuple"), none, (.seq #[] 0), #[]⟩
noncomputable def o_46 (P : Params) : Obj := let _ := P; ⟨.none, none, (.func (fd (inAt 2 0) (Str.ofString "__init__") (Str.ofString "CheckFault.__init__") 0 [] .none .none .none .none none .none .none 0)), #[]⟩
noncomputable def o_47 (P : Params) : Obj := let _ := P; ⟨(.type "code"), none, (.fields #[(.str (Str.ofString "__init__") 230), (.str (Str.ofString "CheckFault.__init__") 231), (.str (Str.ofString "/claim/cut.py") 232), (.int (9) 0), (.int (3) 0), (.int (0) 0), (.int (0) 0), (.int (3) 0), (.ref 42), (.bool true), (.int (181) 0), (.ref 43), .none, (.ref 44), (.ref 45), (.ref 46), (.int (236) 0), (.int (9) 0), (.str (Str.ofString "/claim/cut.py") 237)]), #[]⟩
noncomputable def o_48 (P : Params) : Obj := let _ := P; ⟨(.type "function"), none, (.func (fd (inAt 2 0) (Str.ofString "__init__") (Str.ofString "CheckFault.__init__") 3 [] .none .none .none (.str (Str.ofString "adacore.errors") 187) none (.ref 47) .none 0)), #[]⟩
noncomputable def o_49 (P : Params) : Obj := let _ := P; ⟨(.type "tuple"), none, (.seq #[(.str (Str.ofString "line") 239)] 0), #[]⟩
noncomputable def o_50 (P : Params) : Obj := ⟨(.type "dict"), none, (.dict #[⟨PyData.keyHash P (Str.ofString "__module__"), (.str (Str.ofString "__module__") 225), (.str (Str.ofString "adacore.errors") 187)⟩, ⟨PyData.keyHash P (Str.ofString "__firstlineno__"), (.str (Str.ofString "__firstlineno__") 229), (.int (7) 228)⟩, ⟨PyData.keyHash P (Str.ofString "__init__"), (.str (Str.ofString "__init__") 238), (.ref 48)⟩, ⟨PyData.keyHash P (Str.ofString "__static_attributes__"), (.str (Str.ofString "__static_attributes__") 240), (.ref 49)⟩, ⟨PyData.keyHash P (Str.ofString "__doc__"), (.str (Str.ofString "__doc__") 241), .none⟩] 2), #[]⟩
noncomputable def o_51 (P : Params) : Obj := let _ := P; ⟨(.type "type"), none, (.cls ⟨(Str.ofString "CheckFault"), [(.ref 31)], [(.ref 51), (.ref 31), (.type "Exception"), (.type "BaseException"), (.type "object")], 50, (Str.ofString "CheckFault"), true, [], [], false, none, false⟩), #[(some (.ref 35)), none, (some (.str (Str.ofString "CheckFault") 218)), (some (.str (Str.ofString "CheckFault") 226)), (some (.builtin "Exception.__new__")), (some (.bool true))]⟩
noncomputable def o_52 (P : Params) : Obj := let _ := P; ⟨(.type "super"), none, (.fields #[(.ref 51), (.ref 51), (.ref 51)]), #[]⟩
noncomputable def o_53 (P : Params) : Obj := let _ := P; ⟨(.type "builtin_function_or_method"), none, (.fields #[(.builtin "object.__init_subclass__"), (.ref 51)]), #[]⟩
noncomputable def o_54 (P : Params) : Obj := let _ := P; ⟨(.type "tuple"), none, (.seq #[] 0), #[]⟩
noncomputable def o_55 (P : Params) : Obj := let _ := P; ⟨(.type "builtin_function_or_method"), none, (.fields #[(.builtin "type.__prepare__"), (.type "type")]), #[]⟩
noncomputable def o_56 (P : Params) : Obj := ⟨(.type "dict"), none, (.dict #[⟨PyData.keyHash P (Str.ofString "__module__"), (.str (Str.ofString "__module__") 253), (.str (Str.ofString "adacore.entities") 244)⟩, ⟨PyData.keyHash P (Str.ofString "__qualname__"), (.str (Str.ofString "__qualname__") 255), (.str (Str.ofString "Entity") 254)⟩, ⟨PyData.keyHash P (Str.ofString "__firstlineno__"), (.str (Str.ofString "__firstlineno__") 257), (.int (13) 256)⟩, ⟨PyData.keyHash P (Str.ofString "__init__"), (.str (Str.ofString "__init__") 270), (.ref 67)⟩, ⟨PyData.keyHash P (Str.ofString "__static_attributes__"), (.str (Str.ofString "__static_attributes__") 288), (.ref 68)⟩] 5), #[]⟩
noncomputable def o_57 (P : Params) : Obj := let _ := P; ⟨(.type "tuple"), none, (.seq #[] 0), #[]⟩
noncomputable def o_58 (P : Params) : Obj := let _ := P; ⟨.none, none, (.fields #[(.int (15) 0), (.int (4) 0), (.ref 66)]), #[]⟩
noncomputable def o_59 (P : Params) : Obj := let _ := P; ⟨(.type "code"), none, (.fields #[(.str (Str.ofString "Entity") 248), (.str (Str.ofString "Entity") 249), (.str (Str.ofString "/claim/cut.py") 250), (.int (13) 0), (.int (0) 0), (.int (0) 0), (.int (0) 0), (.int (0) 0), (.ref 57), (.bool false), (.int (181) 0), (.ref 58), .none, .none, .none, .none, (.int (251) 0), (.int (13) 0), (.str (Str.ofString "/claim/cut.py") 252)]), #[]⟩
noncomputable def o_60 (P : Params) : Obj := let _ := P; ⟨(.type "frame"), none, .plain, #[(some (.ref 59)), (some (.ref 3)), (some (.ref 56)), none, (some (.str (Str.ofString "adacore.entities") 244)), none, (some (.ref 0))]⟩
noncomputable def o_61 (P : Params) : Obj := let _ := P; ⟨(.type "tuple"), none, (.seq #[] 0), #[]⟩
noncomputable def o_62 (P : Params) : Obj := let _ := P; ⟨.none, none, (.fields #[]), #[]⟩
noncomputable def o_63 (P : Params) : Obj := let _ := P; ⟨(.type "tuple"), none, (.seq #[(.str (Str.ofString "self") 261), (.str (Str.ofString "kind") 262), (.str (Str.ofString "name") 263), (.str (Str.ofString "key") 264), (.str (Str.ofString "subtype") 265), (.str (Str.ofString "data") 266), (.str (Str.ofString "line") 267)] 0), #[]⟩
noncomputable def o_64 (P : Params) : Obj := let _ := P; ⟨(.type "tuple"), none, (.seq #[] 0), #[]⟩
noncomputable def o_65 (P : Params) : Obj := let _ := P; ⟨.none, none, (.func (fd (inAt 4 0) (Str.ofString "__init__") (Str.ofString "Entity.__init__") 0 [] .none .none .none .none none .none .none 0)), #[]⟩
noncomputable def o_66 (P : Params) : Obj := let _ := P; ⟨(.type "code"), none, (.fields #[(.str (Str.ofString "__init__") 258), (.str (Str.ofString "Entity.__init__") 259), (.str (Str.ofString "/claim/cut.py") 260), (.int (15) 0), (.int (7) 0), (.int (0) 0), (.int (0) 0), (.int (3) 0), (.ref 61), (.bool true), (.int (181) 0), (.ref 62), .none, (.ref 63), (.ref 64), (.ref 65), (.int (268) 0), (.int (15) 0), (.str (Str.ofString "/claim/cut.py") 269)]), #[]⟩
noncomputable def o_67 (P : Params) : Obj := let _ := P; ⟨(.type "function"), none, (.func (fd (inAt 4 0) (Str.ofString "__init__") (Str.ofString "Entity.__init__") 3 [] .none .none .none (.str (Str.ofString "adacore.entities") 244) none (.ref 66) .none 0)), #[]⟩
noncomputable def o_68 (P : Params) : Obj := let _ := P; ⟨(.type "tuple"), none, (.seq #[(.str (Str.ofString "data") 271), (.str (Str.ofString "full") 272), (.str (Str.ofString "home") 273), (.str (Str.ofString "is_complete") 274), (.str (Str.ofString "is_constant") 275), (.str (Str.ofString "is_implicit") 276), (.str (Str.ofString "is_overridden") 277), (.str (Str.ofString "is_ready") 278), (.str (Str.ofString "key") 279), (.str (Str.ofString "kind") 280), (.str (Str.ofString "line") 281), (.str (Str.ofString "name") 282), (.str (Str.ofString "number") 283), (.str (Str.ofString "part") 284), (.str (Str.ofString "region") 285), (.str (Str.ofString "subtype") 286), (.str (Str.ofString "unique") 287)] 0), #[]⟩
noncomputable def o_69 (P : Params) : Obj := ⟨(.type "dict"), none, (.dict #[⟨PyData.keyHash P (Str.ofString "__module__"), (.str (Str.ofString "__module__") 253), (.str (Str.ofString "adacore.entities") 244)⟩, ⟨PyData.keyHash P (Str.ofString "__firstlineno__"), (.str (Str.ofString "__firstlineno__") 257), (.int (13) 256)⟩, ⟨PyData.keyHash P (Str.ofString "__init__"), (.str (Str.ofString "__init__") 270), (.ref 67)⟩, ⟨PyData.keyHash P (Str.ofString "__static_attributes__"), (.str (Str.ofString "__static_attributes__") 288), (.ref 68)⟩, ⟨PyData.keyHash P (Str.ofString "__dict__"), (.str (Str.ofString "__dict__") 290), (.ref 71)⟩, ⟨PyData.keyHash P (Str.ofString "__weakref__"), (.str (Str.ofString "__weakref__") 292), (.ref 72)⟩, ⟨PyData.keyHash P (Str.ofString "__doc__"), (.str (Str.ofString "__doc__") 293), .none⟩] 4), #[]⟩
noncomputable def o_70 (P : Params) : Obj := let _ := P; ⟨(.type "type"), none, (.cls ⟨(Str.ofString "Entity"), [(.type "object")], [(.ref 70), (.type "object")], 69, (Str.ofString "Entity"), true, [], [], false, none, false⟩), #[none, none, (some (.str (Str.ofString "Entity") 246)), (some (.str (Str.ofString "Entity") 254)), (some (.builtin "object.__new__")), (some (.bool true))]⟩
noncomputable def o_71 (P : Params) : Obj := let _ := P; ⟨(.type "getset_descriptor"), none, (.fields #[(.str (Str.ofString "__dict__") 289), (.ref 70), (.builtin "function.__dict__"), (.builtin "function.__dict__#set")]), #[]⟩
noncomputable def o_72 (P : Params) : Obj := let _ := P; ⟨(.type "getset_descriptor"), none, (.fields #[(.str (Str.ofString "__weakref__") 291), (.ref 70), (.builtin "ExceptionGroup.__weakref__"), .none]), #[]⟩
noncomputable def o_73 (P : Params) : Obj := let _ := P; ⟨(.type "super"), none, (.fields #[(.ref 70), (.ref 70), (.ref 70)]), #[]⟩
noncomputable def o_74 (P : Params) : Obj := let _ := P; ⟨(.type "builtin_function_or_method"), none, (.fields #[(.builtin "object.__init_subclass__"), (.ref 70)]), #[]⟩
noncomputable def o_75 (P : Params) : Obj := let _ := P; ⟨(.type "tuple"), none, (.seq #[] 0), #[]⟩
noncomputable def o_76 (P : Params) : Obj := let _ := P; ⟨.none, none, (.fields #[]), #[]⟩
noncomputable def o_77 (P : Params) : Obj := let _ := P; ⟨(.type "tuple"), none, (.seq #[(.str (Str.ofString "entity") 299)] 0), #[]⟩
noncomputable def o_78 (P : Params) : Obj := let _ := P; ⟨(.type "tuple"), none, (.seq #[] 0), #[]⟩
noncomputable def o_79 (P : Params) : Obj := let _ := P; ⟨.none, none, (.func (fd (stAt 5) (Str.ofString "is_overloadable") (Str.ofString "is_overloadable") 0 [] .none .none .none .none none .none .none 0)), #[]⟩
noncomputable def o_80 (P : Params) : Obj := let _ := P; ⟨(.type "code"), none, (.fields #[(.str (Str.ofString "is_overloadable") 296), (.str (Str.ofString "is_overloadable") 297), (.str (Str.ofString "/claim/cut.py") 298), (.int (33) 0), (.int (1) 0), (.int (0) 0), (.int (0) 0), (.int (3) 0), (.ref 75), (.bool true), (.int (181) 0), (.ref 76), .none, (.ref 77), (.ref 78), (.ref 79), (.int (300) 0), (.int (33) 0), (.str (Str.ofString "/claim/cut.py") 301)]), #[]⟩
noncomputable def o_81 (P : Params) : Obj := let _ := P; ⟨(.type "function"), none, (.func (fd (stAt 5) (Str.ofString "is_overloadable") (Str.ofString "is_overloadable") 3 [] .none .none .none (.str (Str.ofString "adacore.entities") 244) none (.ref 80) .none 0)), #[]⟩
noncomputable def o_82 (P : Params) : Obj := let _ := P; ⟨(.type "tuple"), none, (.seq #[] 0), #[]⟩
noncomputable def o_83 (P : Params) : Obj := let _ := P; ⟨.none, none, (.fields #[]), #[]⟩
noncomputable def o_84 (P : Params) : Obj := let _ := P; ⟨(.type "tuple"), none, (.seq #[(.str (Str.ofString "one") 306), (.str (Str.ofString "other") 307)] 0), #[]⟩
noncomputable def o_85 (P : Params) : Obj := let _ := P; ⟨(.type "tuple"), none, (.seq #[] 0), #[]⟩
noncomputable def o_86 (P : Params) : Obj := let _ := P; ⟨.none, none, (.func (fd (stAt 6) (Str.ofString "homographs") (Str.ofString "homographs") 0 [] .none .none .none .none none .none .none 0)), #[]⟩
noncomputable def o_87 (P : Params) : Obj := let _ := P; ⟨(.type "code"), none, (.fields #[(.str (Str.ofString "homographs") 303), (.str (Str.ofString "homographs") 304), (.str (Str.ofString "/claim/cut.py") 305), (.int (35) 0), (.int (2) 0), (.int (0) 0), (.int (0) 0), (.int (3) 0), (.ref 82), (.bool true), (.int (181) 0), (.ref 83), .none, (.ref 84), (.ref 85), (.ref 86), (.int (308) 0), (.int (35) 0), (.str (Str.ofString "/claim/cut.py") 309)]), #[]⟩
noncomputable def o_88 (P : Params) : Obj := let _ := P; ⟨(.type "function"), none, (.func (fd (stAt 6) (Str.ofString "homographs") (Str.ofString "homographs") 3 [] .none .none .none (.str (Str.ofString "adacore.entities") 244) none (.ref 87) .none 0)), #[]⟩
noncomputable def o_89 (P : Params) : Obj := let _ := P; ⟨(.type "tuple"), none, (.seq #[] 0), #[]⟩
noncomputable def o_90 (P : Params) : Obj := let _ := P; ⟨.none, none, (.fields #[]), #[]⟩
noncomputable def o_91 (P : Params) : Obj := let _ := P; ⟨(.type "tuple"), none, (.seq #[(.str (Str.ofString "name") 314)] 0), #[]⟩
noncomputable def o_92 (P : Params) : Obj := let _ := P; ⟨(.type "tuple"), none, (.seq #[] 0), #[]⟩
noncomputable def o_93 (P : Params) : Obj := let _ := P; ⟨.none, none, (.func (fd (stAt 7) (Str.ofString "is_operator_sign") (Str.ofString "is_operator_sign") 0 [] .none .none .none .none none .none .none 0)), #[]⟩
noncomputable def o_94 (P : Params) : Obj := let _ := P; ⟨(.type "code"), none, (.fields #[(.str (Str.ofString "is_operator_sign") 311), (.str (Str.ofString "is_operator_sign") 312), (.str (Str.ofString "/claim/cut.py") 313), (.int (39) 0), (.int (1) 0), (.int (0) 0), (.int (0) 0), (.int (3) 0), (.ref 89), (.bool true), (.int (181) 0), (.ref 90), .none, (.ref 91), (.ref 92), (.ref 93), (.int (315) 0), (.int (39) 0), (.str (Str.ofString "/claim/cut.py") 316)]), #[]⟩
noncomputable def o_95 (P : Params) : Obj := let _ := P; ⟨(.type "function"), none, (.func (fd (stAt 7) (Str.ofString "is_operator_sign") (Str.ofString "is_operator_sign") 3 [] .none .none .none (.str (Str.ofString "adacore.entities") 244) none (.ref 94) .none 0)), #[]⟩
noncomputable def o_96 (P : Params) : Obj := let _ := P; ⟨(.type "tuple"), none, (.seq #[] 0), #[]⟩
noncomputable def o_97 (P : Params) : Obj := let _ := P; ⟨.none, none, (.fields #[]), #[]⟩
noncomputable def o_98 (P : Params) : Obj := let _ := P; ⟨(.type "tuple"), none, (.seq #[(.str (Str.ofString "entity") 321), (.str (Str.ofString "number") 322)] 0), #[]⟩
noncomputable def o_99 (P : Params) : Obj := let _ := P; ⟨(.type "tuple"), none, (.seq #[] 0), #[]⟩
noncomputable def o_100 (P : Params) : Obj := let _ := P; ⟨.none, none, (.func (fd (stAt 8) (Str.ofString "mentions_type") (Str.ofString "mentions_type") 0 [] .none .none .none .none none .none .none 0)), #[]⟩
noncomputable def o_101 (P : Params) : Obj := let _ := P; ⟨(.type "code"), none, (.fields #[(.str (Str.ofString "mentions_type") 318), (.str (Str.ofString "mentions_type") 319), (.str (Str.ofString "/claim/cut.py") 320), (.int (41) 0), (.int (2) 0), (.int (0) 0), (.int (0) 0), (.int (3) 0), (.ref 96), (.bool true), (.int (181) 0), (.ref 97), .none, (.ref 98), (.ref 99), (.ref 100), (.int (323) 0), (.int (41) 0), (.str (Str.ofString "/claim/cut.py") 324)]), #[]⟩
noncomputable def o_102 (P : Params) : Obj := let _ := P; ⟨(.type "function"), none, (.func (fd (stAt 8) (Str.ofString "mentions_type") (Str.ofString "mentions_type") 3 [] .none .none .none (.str (Str.ofString "adacore.entities") 244) none (.ref 101) .none 0)), #[]⟩
noncomputable def o_103 (P : Params) : Obj := let _ := P; ⟨(.type "tuple"), none, (.seq #[] 0), #[]⟩
noncomputable def o_104 (P : Params) : Obj := let _ := P; ⟨.none, none, (.fields #[]), #[]⟩
noncomputable def o_105 (P : Params) : Obj := let _ := P; ⟨(.type "tuple"), none, (.seq #[(.str (Str.ofString "name") 333), (.str (Str.ofString "number") 334)] 0), #[]⟩
noncomputable def o_106 (P : Params) : Obj := let _ := P; ⟨(.type "tuple"), none, (.seq #[] 0), #[]⟩
noncomputable def o_107 (P : Params) : Obj := let _ := P; ⟨.none, none, (.func (fd (stAt 11) (Str.ofString "unique") (Str.ofString "unique") 0 [] .none .none .none .none none .none .none 0)), #[]⟩
noncomputable def o_108 (P : Params) : Obj := let _ := P; ⟨(.type "code"), none, (.fields #[(.str (Str.ofString "unique") 330), (.str (Str.ofString "unique") 331), (.str (Str.ofString "/claim/cut.py") 332), (.int (47) 0), (.int (2) 0), (.int (0) 0), (.int (0) 0), (.int (3) 0), (.ref 103), (.bool true), (.int (181) 0), (.ref 104), .none, (.ref 105), (.ref 106), (.ref 107), (.int (335) 0), (.int (47) 0), (.str (Str.ofString "/claim/cut.py") 336)]), #[]⟩
noncomputable def o_109 (P : Params) : Obj := let _ := P; ⟨(.type "function"), none, (.func (fd (stAt 11) (Str.ofString "unique") (Str.ofString "unique") 3 [] .none .none .none (.str (Str.ofString "adacore.names") 326) none (.ref 108) .none 0)), #[]⟩
noncomputable def o_110 (P : Params) : Obj := let _ := P; ⟨(.type "tuple"), none, (.seq #[(.str (Str.ofString "root") 340), (.str (Str.ofString "sub") 341), (.str (Str.ofString "task") 342), (.str (Str.ofString "protected") 343)] 0), #[]⟩
noncomputable def o_111 (P : Params) : Obj := let _ := P; ⟨(.type "tuple"), none, (.seq #[] 0), #[]⟩
noncomputable def o_112 (P : Params) : Obj := let _ := P; ⟨(.type "builtin_function_or_method"), none, (.fields #[(.builtin "type.__prepare__"), (.type "type")]), #[]⟩
noncomputable def o_113 (P : Params) : Obj := ⟨(.type "dict"), none, (.dict #[⟨PyData.keyHash P (Str.ofString "__module__"), (.str (Str.ofString "__module__") 352), (.str (Str.ofString "adacore.scopes") 338)⟩, ⟨PyData.keyHash P (Str.ofString "__qualname__"), (.str (Str.ofString "__qualname__") 354), (.str (Str.ofString "Region") 353)⟩, ⟨PyData.keyHash P (Str.ofString "__firstlineno__"), (.str (Str.ofString "__firstlineno__") 356), (.int (51) 355)⟩, ⟨PyData.keyHash P (Str.ofString "__init__"), (.str (Str.ofString "__init__") 366), (.ref 124)⟩, ⟨PyData.keyHash P (Str.ofString "__static_attributes__"), (.str (Str.ofString "__static_attributes__") 382), (.ref 125)⟩] 5), #[]⟩
noncomputable def o_114 (P : Params) : Obj := let _ := P; ⟨(.type "tuple"), none, (.seq #[] 0), #[]⟩
noncomputable def o_115 (P : Params) : Obj := let _ := P; ⟨.none, none, (.fields #[(.int (53) 0), (.int (4) 0), (.ref 123)]), #[]⟩
noncomputable def o_116 (P : Params) : Obj := let _ := P; ⟨(.type "code"), none, (.fields #[(.str (Str.ofString "Region") 347), (.str (Str.ofString "Region") 348), (.str (Str.ofString "/claim/cut.py") 349), (.int (51) 0), (.int (0) 0), (.int (0) 0), (.int (0) 0), (.int (0) 0), (.ref 114), (.bool false), (.int (181) 0), (.ref 115), .none, .none, .none, .none, (.int (350) 0), (.int (51) 0), (.str (Str.ofString "/claim/cut.py") 351)]), #[]⟩
noncomputable def o_117 (P : Params) : Obj := let _ := P; ⟨(.type "frame"), none, .plain, #[(some (.ref 116)), (some (.ref 3)), (some (.ref 113)), none, (some (.str (Str.ofString "adacore.scopes") 338)), none, (some (.ref 0))]⟩
noncomputable def o_118 (P : Params) : Obj := let _ := P; ⟨(.type "tuple"), none, (.seq #[] 0), #[]⟩
noncomputable def o_119 (P : Params) : Obj := let _ := P; ⟨.none, none, (.fields #[]), #[]⟩
noncomputable def o_120 (P : Params) : Obj := let _ := P; ⟨(.type "tuple"), none, (.seq #[(.str (Str.ofString "self") 360), (.str (Str.ofString "kind") 361), (.str (Str.ofString "owner") 362), (.str (Str.ofString "parent") 363)] 0), #[]⟩
noncomputable def o_121 (P : Params) : Obj := let _ := P; ⟨(.type "tuple"), none, (.seq #[] 0), #[]⟩
noncomputable def o_122 (P : Params) : Obj := let _ := P; ⟨.none, none, (.func (fd (inAt 14 0) (Str.ofString "__init__") (Str.ofString "Region.__init__") 0 [] .none .none .none .none none .none .none 0)), #[]⟩
noncomputable def o_123 (P : Params) : Obj := let _ := P; ⟨(.type "code"), none, (.fields #[(.str (Str.ofString "__init__") 357), (.str (Str.ofString "Region.__init__") 358), (.str (Str.ofString "/claim/cut.py") 359), (.int (53) 0), (.int (4) 0), (.int (0) 0), (.int (0) 0), (.int (3) 0), (.ref 118), (.bool true), (.int (181) 0), (.ref 119), .none, (.ref 120), (.ref 121), (.ref 122), (.int (364) 0), (.int (53) 0), (.str (Str.ofString "/claim/cut.py") 365)]), #[]⟩
noncomputable def o_124 (P : Params) : Obj := let _ := P; ⟨(.type "function"), none, (.func (fd (inAt 14 0) (Str.ofString "__init__") (Str.ofString "Region.__init__") 3 [] .none .none .none (.str (Str.ofString "adacore.scopes") 338) none (.ref 123) .none 0)), #[]⟩
noncomputable def o_125 (P : Params) : Obj := let _ := P; ⟨(.type "tuple"), none, (.seq #[(.str (Str.ofString "counts") 367), (.str (Str.ofString "generic") 368), (.str (Str.ofString "kind") 369), (.str (Str.ofString "level") 370), (.str (Str.ofString "made") 371), (.str (Str.ofString "names") 372), (.str (Str.ofString "number") 373), (.str (Str.ofString "order") 374), (.str (Str.ofString "owner") 375), (.str (Str.ofString "parent") 376), (.str (Str.ofString "part") 377), (.str (Str.ofString "root") 378), (.str (Str.ofString "type_homes") 379), (.str (Str.ofString "use_types") 380), (.str (Str.ofString "uses") 381)] 0), #[]⟩
noncomputable def o_126 (P : Params) : Obj := ⟨(.type "dict"), none, (.dict #[⟨PyData.keyHash P (Str.ofString "__module__"), (.str (Str.ofString "__module__") 352), (.str (Str.ofString "adacore.scopes") 338)⟩, ⟨PyData.keyHash P (Str.ofString "__firstlineno__"), (.str (Str.ofString "__firstlineno__") 356), (.int (51) 355)⟩, ⟨PyData.keyHash P (Str.ofString "__init__"), (.str (Str.ofString "__init__") 366), (.ref 124)⟩, ⟨PyData.keyHash P (Str.ofString "__static_attributes__"), (.str (Str.ofString "__static_attributes__") 382), (.ref 125)⟩, ⟨PyData.keyHash P (Str.ofString "__dict__"), (.str (Str.ofString "__dict__") 384), (.ref 128)⟩, ⟨PyData.keyHash P (Str.ofString "__weakref__"), (.str (Str.ofString "__weakref__") 386), (.ref 129)⟩, ⟨PyData.keyHash P (Str.ofString "__doc__"), (.str (Str.ofString "__doc__") 387), .none⟩] 4), #[]⟩
noncomputable def o_127 (P : Params) : Obj := let _ := P; ⟨(.type "type"), none, (.cls ⟨(Str.ofString "Region"), [(.type "object")], [(.ref 127), (.type "object")], 126, (Str.ofString "Region"), true, [], [], false, none, false⟩), #[none, none, (some (.str (Str.ofString "Region") 345)), (some (.str (Str.ofString "Region") 353)), (some (.builtin "object.__new__")), (some (.bool true))]⟩
noncomputable def o_128 (P : Params) : Obj := let _ := P; ⟨(.type "getset_descriptor"), none, (.fields #[(.str (Str.ofString "__dict__") 383), (.ref 127), (.builtin "function.__dict__"), (.builtin "function.__dict__#set")]), #[]⟩
noncomputable def o_129 (P : Params) : Obj := let _ := P; ⟨(.type "getset_descriptor"), none, (.fields #[(.str (Str.ofString "__weakref__") 385), (.ref 127), (.builtin "ExceptionGroup.__weakref__"), .none]), #[]⟩
noncomputable def o_130 (P : Params) : Obj := let _ := P; ⟨(.type "super"), none, (.fields #[(.ref 127), (.ref 127), (.ref 127)]), #[]⟩
noncomputable def o_131 (P : Params) : Obj := let _ := P; ⟨(.type "builtin_function_or_method"), none, (.fields #[(.builtin "object.__init_subclass__"), (.ref 127)]), #[]⟩
noncomputable def o_132 (P : Params) : Obj := let _ := P; ⟨(.type "tuple"), none, (.seq #[] 0), #[]⟩
noncomputable def o_133 (P : Params) : Obj := let _ := P; ⟨.none, none, (.fields #[]), #[]⟩
noncomputable def o_134 (P : Params) : Obj := let _ := P; ⟨(.type "tuple"), none, (.seq #[(.str (Str.ofString "kind") 393), (.str (Str.ofString "owner") 394), (.str (Str.ofString "parent") 395), (.str (Str.ofString "region") 396)] 0), #[]⟩
noncomputable def o_135 (P : Params) : Obj := let _ := P; ⟨(.type "tuple"), none, (.seq #[] 0), #[]⟩
noncomputable def o_136 (P : Params) : Obj := let _ := P; ⟨.none, none, (.func (fd (stAt 15) (Str.ofString "open_region") (Str.ofString "open_region") 0 [] .none .none .none .none none .none .none 0)), #[]⟩
noncomputable def o_137 (P : Params) : Obj := let _ := P; ⟨(.type "code"), none, (.fields #[(.str (Str.ofString "open_region") 390), (.str (Str.ofString "open_region") 391), (.str (Str.ofString "/claim/cut.py") 392), (.int (70) 0), (.int (3) 0), (.int (0) 0), (.int (0) 0), (.int (3) 0), (.ref 132), (.bool true), (.int (181) 0), (.ref 133), .none, (.ref 134), (.ref 135), (.ref 136), (.int (397) 0), (.int (70) 0), (.str (Str.ofString "/claim/cut.py") 398)]), #[]⟩
noncomputable def o_138 (P : Params) : Obj := let _ := P; ⟨(.type "function"), none, (.func (fd (stAt 15) (Str.ofString "open_region") (Str.ofString "open_region") 3 [] .none .none .none (.str (Str.ofString "adacore.scopes") 338) none (.ref 137) .none 0)), #[]⟩
noncomputable def o_139 (P : Params) : Obj := let _ := P; ⟨(.type "tuple"), none, (.seq #[] 0), #[]⟩
noncomputable def o_140 (P : Params) : Obj := let _ := P; ⟨.none, none, (.fields #[]), #[]⟩
noncomputable def o_141 (P : Params) : Obj := let _ := P; ⟨(.type "tuple"), none, (.seq #[(.str (Str.ofString "outer") 403), (.str (Str.ofString "place") 404), (.str (Str.ofString "here") 405)] 0), #[]⟩
noncomputable def o_142 (P : Params) : Obj := let _ := P; ⟨(.type "tuple"), none, (.seq #[] 0), #[]⟩
noncomputable def o_143 (P : Params) : Obj := let _ := P; ⟨.none, none, (.func (fd (stAt 16) (Str.ofString "encloses") (Str.ofString "encloses") 0 [] .none .none .none .none none .none .none 0)), #[]⟩
noncomputable def o_144 (P : Params) : Obj := let _ := P; ⟨(.type "code"), none, (.fields #[(.str (Str.ofString "encloses") 400), (.str (Str.ofString "encloses") 401), (.str (Str.ofString "/claim/cut.py") 402), (.int (75) 0), (.int (2) 0), (.int (0) 0), (.int (0) 0), (.int (3) 0), (.ref 139), (.bool true), (.int (181) 0), (.ref 140), .none, (.ref 141), (.ref 142), (.ref 143), (.int (406) 0), (.int (75) 0), (.str (Str.ofString "/claim/cut.py") 407)]), #[]⟩
noncomputable def o_145 (P : Params) : Obj := let _ := P; ⟨(.type "function"), none, (.func (fd (stAt 16) (Str.ofString "encloses") (Str.ofString "encloses") 3 [] .none .none .none (.str (Str.ofString "adacore.scopes") 338) none (.ref 144) .none 0)), #[]⟩
noncomputable def o_146 (P : Params) : Obj := let _ := P; ⟨(.type "tuple"), none, (.seq #[] 0), #[]⟩
noncomputable def o_147 (P : Params) : Obj := let _ := P; ⟨.none, none, (.fields #[]), #[]⟩
noncomputable def o_148 (P : Params) : Obj := let _ := P; ⟨(.type "tuple"), none, (.seq #[(.str (Str.ofString "region") 412), (.str (Str.ofString "here") 413)] 0), #[]⟩
noncomputable def o_149 (P : Params) : Obj := let _ := P; ⟨(.type "tuple"), none, (.seq #[] 0), #[]⟩
noncomputable def o_150 (P : Params) : Obj := let _ := P; ⟨.none, none, (.func (fd (stAt 17) (Str.ofString "frame_region") (Str.ofString "frame_region") 0 [] .none .none .none .none none .none .none 0)), #[]⟩
noncomputable def o_151 (P : Params) : Obj := let _ := P; ⟨(.type "code"), none, (.fields #[(.str (Str.ofString "frame_region") 409), (.str (Str.ofString "frame_region") 410), (.str (Str.ofString "/claim/cut.py") 411), (.int (82) 0), (.int (1) 0), (.int (0) 0), (.int (0) 0), (.int (3) 0), (.ref 146), (.bool true), (.int (181) 0), (.ref 147), .none, (.ref 148), (.ref 149), (.ref 150), (.int (414) 0), (.int (82) 0), (.str (Str.ofString "/claim/cut.py") 415)]), #[]⟩
noncomputable def o_152 (P : Params) : Obj := let _ := P; ⟨(.type "function"), none, (.func (fd (stAt 17) (Str.ofString "frame_region") (Str.ofString "frame_region") 3 [] .none .none .none (.str (Str.ofString "adacore.scopes") 338) none (.ref 151) .none 0)), #[]⟩
noncomputable def o_153 (P : Params) : Obj := let _ := P; ⟨(.type "tuple"), none, (.seq #[] 0), #[]⟩
noncomputable def o_154 (P : Params) : Obj := let _ := P; ⟨.none, none, (.fields #[]), #[]⟩
noncomputable def o_155 (P : Params) : Obj := let _ := P; ⟨(.type "tuple"), none, (.seq #[(.str (Str.ofString "region") 420), (.str (Str.ofString "entity") 421), (.str (Str.ofString "frame") 422), (.str (Str.ofString "count") 423)] 0), #[]⟩
noncomputable def o_156 (P : Params) : Obj := let _ := P; ⟨(.type "tuple"), none, (.seq #[] 0), #[]⟩
noncomputable def o_157 (P : Params) : Obj := let _ := P; ⟨.none, none, (.func (fd (stAt 18) (Str.ofString "give_unique") (Str.ofString "give_unique") 0 [] .none .none .none .none none .none .none 0)), #[]⟩
noncomputable def o_158 (P : Params) : Obj := let _ := P; ⟨(.type "code"), none, (.fields #[(.str (Str.ofString "give_unique") 417), (.str (Str.ofString "give_unique") 418), (.str (Str.ofString "/claim/cut.py") 419), (.int (87) 0), (.int (2) 0), (.int (0) 0), (.int (0) 0), (.int (3) 0), (.ref 153), (.bool true), (.int (181) 0), (.ref 154), .none, (.ref 155), (.ref 156), (.ref 157), (.int (424) 0), (.int (87) 0), (.str (Str.ofString "/claim/cut.py") 425)]), #[]⟩
noncomputable def o_159 (P : Params) : Obj := let _ := P; ⟨(.type "function"), none, (.func (fd (stAt 18) (Str.ofString "give_unique") (Str.ofString "give_unique") 3 [] .none .none .none (.str (Str.ofString "adacore.scopes") 338) none (.ref 158) .none 0)), #[]⟩
noncomputable def o_160 (P : Params) : Obj := let _ := P; ⟨(.type "tuple"), none, (.seq #[] 0), #[]⟩
noncomputable def o_161 (P : Params) : Obj := let _ := P; ⟨.none, none, (.fields #[]), #[]⟩
noncomputable def o_162 (P : Params) : Obj := let _ := P; ⟨.none, none, (.func (fd (stAt 19) (Str.ofString "settle_rivals") (Str.ofString "settle_rivals") 0 [] .none .none .none .none none .none .none 0)), #[]⟩
noncomputable def o_163 (P : Params) : Obj := let _ := P; ⟨(.type "code"), none, (.fields #[(.str (Str.ofString "settle_rivals") 427), (.str (Str.ofString "settle_rivals") 428), (.str (Str.ofString "/claim/cut.py") 429), (.int (92) 0), (.int (2) 0), (.int (0) 0), (.int (0) 0), (.int (3) 0), (.ref 160), (.bool true), (.int (181) 0), (.ref 161), .none, .none, .none, (.ref 162), (.int (430) 0), (.int (92) 0), (.str (Str.ofString "/claim/cut.py") 431)]), #[]⟩
noncomputable def o_164 (P : Params) : Obj := let _ := P; ⟨(.type "function"), none, (.func (fd (stAt 19) (Str.ofString "settle_rivals") (Str.ofString "settle_rivals") 3 [] .none .none .none (.str (Str.ofString "adacore.scopes") 338) none (.ref 163) .none 0)), #[]⟩
noncomputable def o_165 (P : Params) : Obj := let _ := P; ⟨(.type "tuple"), none, (.seq #[] 0), #[]⟩
noncomputable def o_166 (P : Params) : Obj := let _ := P; ⟨.none, none, (.fields #[]), #[]⟩
noncomputable def o_167 (P : Params) : Obj := let _ := P; ⟨(.type "tuple"), none, (.seq #[(.str (Str.ofString "region") 436), (.str (Str.ofString "entity") 437)] 0), #[]⟩
noncomputable def o_168 (P : Params) : Obj := let _ := P; ⟨(.type "tuple"), none, (.seq #[] 0), #[]⟩
noncomputable def o_169 (P : Params) : Obj := let _ := P; ⟨.none, none, (.func (fd (stAt 20) (Str.ofString "declare") (Str.ofString "declare") 0 [] .none .none .none .none none .none .none 0)), #[]⟩
noncomputable def o_170 (P : Params) : Obj := let _ := P; ⟨(.type "code"), none, (.fields #[(.str (Str.ofString "declare") 433), (.str (Str.ofString "declare") 434), (.str (Str.ofString "/claim/cut.py") 435), (.int (102) 0), (.int (2) 0), (.int (0) 0), (.int (0) 0), (.int (3) 0), (.ref 165), (.bool true), (.int (181) 0), (.ref 166), .none, (.ref 167), (.ref 168), (.ref 169), (.int (438) 0), (.int (102) 0), (.str (Str.ofString "/claim/cut.py") 439)]), #[]⟩
noncomputable def o_171 (P : Params) : Obj := let _ := P; ⟨(.type "function"), none, (.func (fd (stAt 20) (Str.ofString "declare") (Str.ofString "declare") 3 [] .none .none .none (.str (Str.ofString "adacore.scopes") 338) none (.ref 170) .none 0)), #[]⟩
noncomputable def o_172 (P : Params) : Obj := let _ := P; ⟨(.type "tuple"), none, (.seq #[] 0), #[]⟩
noncomputable def o_173 (P : Params) : Obj := let _ := P; ⟨.none, none, (.fields #[]), #[]⟩
noncomputable def o_174 (P : Params) : Obj := let _ := P; ⟨(.type "tuple"), none, (.seq #[(.str (Str.ofString "entity") 444)] 0), #[]⟩
noncomputable def o_175 (P : Params) : Obj := let _ := P; ⟨(.type "tuple"), none, (.seq #[] 0), #[]⟩
noncomputable def o_176 (P : Params) : Obj := let _ := P; ⟨.none, none, (.func (fd (stAt 21) (Str.ofString "make_ready") (Str.ofString "make_ready") 0 [] .none .none .none .none none .none .none 0)), #[]⟩
noncomputable def o_177 (P : Params) : Obj := let _ := P; ⟨(.type "code"), none, (.fields #[(.str (Str.ofString "make_ready") 441), (.str (Str.ofString "make_ready") 442), (.str (Str.ofString "/claim/cut.py") 443), (.int (113) 0), (.int (1) 0), (.int (0) 0), (.int (0) 0), (.int (3) 0), (.ref 172), (.bool true), (.int (181) 0), (.ref 173), .none, (.ref 174), (.ref 175), (.ref 176), (.int (445) 0), (.int (113) 0), (.str (Str.ofString "/claim/cut.py") 446)]), #[]⟩
noncomputable def o_178 (P : Params) : Obj := let _ := P; ⟨(.type "function"), none, (.func (fd (stAt 21) (Str.ofString "make_ready") (Str.ofString "make_ready") 3 [] .none .none .none (.str (Str.ofString "adacore.scopes") 338) none (.ref 177) .none 0)), #[]⟩
noncomputable def o_179 (P : Params) : Obj := let _ := P; ⟨(.type "tuple"), none, (.seq #[] 0), #[]⟩
noncomputable def o_180 (P : Params) : Obj := let _ := P; ⟨.none, none, (.fields #[]), #[]⟩
noncomputable def o_181 (P : Params) : Obj := let _ := P; ⟨(.type "tuple"), none, (.seq #[(.str (Str.ofString "region") 451), (.str (Str.ofString "entity") 452)] 0), #[]⟩
noncomputable def o_182 (P : Params) : Obj := let _ := P; ⟨(.type "tuple"), none, (.seq #[] 0), #[]⟩
noncomputable def o_183 (P : Params) : Obj := let _ := P; ⟨.none, none, (.func (fd (stAt 22) (Str.ofString "declare_ready") (Str.ofString "declare_ready") 0 [] .none .none .none .none none .none .none 0)), #[]⟩
noncomputable def o_184 (P : Params) : Obj := let _ := P; ⟨(.type "code"), none, (.fields #[(.str (Str.ofString "declare_ready") 448), (.str (Str.ofString "declare_ready") 449), (.str (Str.ofString "/claim/cut.py") 450), (.int (115) 0), (.int (2) 0), (.int (0) 0), (.int (0) 0), (.int (3) 0), (.ref 179), (.bool true), (.int (181) 0), (.ref 180), .none, (.ref 181), (.ref 182), (.ref 183), (.int (453) 0), (.int (115) 0), (.str (Str.ofString "/claim/cut.py") 454)]), #[]⟩
noncomputable def o_185 (P : Params) : Obj := let _ := P; ⟨(.type "function"), none, (.func (fd (stAt 22) (Str.ofString "declare_ready") (Str.ofString "declare_ready") 3 [] .none .none .none (.str (Str.ofString "adacore.scopes") 338) none (.ref 184) .none 0)), #[]⟩
noncomputable def o_186 (P : Params) : Obj := let _ := P; ⟨(.type "tuple"), none, (.seq #[] 0), #[]⟩
noncomputable def o_187 (P : Params) : Obj := let _ := P; ⟨.none, none, (.fields #[]), #[]⟩
noncomputable def o_188 (P : Params) : Obj := let _ := P; ⟨(.type "tuple"), none, (.seq #[(.str (Str.ofString "region") 459), (.str (Str.ofString "number") 460)] 0), #[]⟩
noncomputable def o_189 (P : Params) : Obj := let _ := P; ⟨(.type "tuple"), none, (.seq #[] 0), #[]⟩
noncomputable def o_190 (P : Params) : Obj := let _ := P; ⟨.none, none, (.func (fd (stAt 23) (Str.ofString "note_type") (Str.ofString "note_type") 0 [] .none .none .none .none none .none .none 0)), #[]⟩
noncomputable def o_191 (P : Params) : Obj := let _ := P; ⟨(.type "code"), none, (.fields #[(.str (Str.ofString "note_type") 456), (.str (Str.ofString "note_type") 457), (.str (Str.ofString "/claim/cut.py") 458), (.int (118) 0), (.int (2) 0), (.int (0) 0), (.int (0) 0), (.int (3) 0), (.ref 186), (.bool true), (.int (181) 0), (.ref 187), .none, (.ref 188), (.ref 189), (.ref 190), (.int (461) 0), (.int (118) 0), (.str (Str.ofString "/claim/cut.py") 462)]), #[]⟩
noncomputable def o_192 (P : Params) : Obj := let _ := P; ⟨(.type "function"), none, (.func (fd (stAt 23) (Str.ofString "note_type") (Str.ofString "note_type") 3 [] .none .none .none (.str (Str.ofString "adacore.scopes") 338) none (.ref 191) .none 0)), #[]⟩
noncomputable def o_193 (P : Params) : Obj := let _ := P; ⟨(.type "tuple"), none, (.seq #[] 0), #[]⟩
noncomputable def o_194 (P : Params) : Obj := let _ := P; ⟨.none, none, (.fields #[]), #[]⟩
noncomputable def o_195 (P : Params) : Obj := let _ := P; ⟨(.type "tuple"), none, (.seq #[(.str (Str.ofString "entity") 467), (.str (Str.ofString "inner") 468), (.str (Str.ofString "other") 469)] 0), #[]⟩
noncomputable def o_196 (P : Params) : Obj := let _ := P; ⟨(.type "tuple"), none, (.seq #[] 0), #[]⟩
noncomputable def o_197 (P : Params) : Obj := let _ := P; ⟨.none, none, (.func (fd (stAt 24) (Str.ofString "is_hidden") (Str.ofString "is_hidden") 0 [] .none .none .none .none none .none .none 0)), #[]⟩
noncomputable def o_198 (P : Params) : Obj := let _ := P; ⟨(.type "code"), none, (.fields #[(.str (Str.ofString "is_hidden") 464), (.str (Str.ofString "is_hidden") 465), (.str (Str.ofString "/claim/cut.py") 466), (.int (120) 0), (.int (2) 0), (.int (0) 0), (.int (0) 0), (.int (3) 0), (.ref 193), (.bool true), (.int (181) 0), (.ref 194), .none, (.ref 195), (.ref 196), (.ref 197), (.int (470) 0), (.int (120) 0), (.str (Str.ofString "/claim/cut.py") 471)]), #[]⟩
noncomputable def o_199 (P : Params) : Obj := let _ := P; ⟨(.type "function"), none, (.func (fd (stAt 24) (Str.ofString "is_hidden") (Str.ofString "is_hidden") 3 [] .none .none .none (.str (Str.ofString "adacore.scopes") 338) none (.ref 198) .none 0)), #[]⟩
noncomputable def o_200 (P : Params) : Obj := let _ := P; ⟨(.type "tuple"), none, (.seq #[] 0), #[]⟩
noncomputable def o_201 (P : Params) : Obj := let _ := P; ⟨.none, none, (.fields #[]), #[]⟩
noncomputable def o_202 (P : Params) : Obj := let _ := P; ⟨.none, none, (.func (fd (stAt 25) (Str.ofString "immediate_entities") (Str.ofString "immediate_entities") 0 [] .none .none .none .none none .none .none 0)), #[]⟩
noncomputable def o_203 (P : Params) : Obj := let _ := P; ⟨(.type "code"), none, (.fields #[(.str (Str.ofString "immediate_entities") 473), (.str (Str.ofString "immediate_entities") 474), (.str (Str.ofString "/claim/cut.py") 475), (.int (125) 0), (.int (2) 0), (.int (0) 0), (.int (0) 0), (.int (3) 0), (.ref 200), (.bool true), (.int (181) 0), (.ref 201), .none, .none, .none, (.ref 202), (.int (476) 0), (.int (125) 0), (.str (Str.ofString "/claim/cut.py") 477)]), #[]⟩
noncomputable def o_204 (P : Params) : Obj := let _ := P; ⟨(.type "function"), none, (.func (fd (stAt 25) (Str.ofString "immediate_entities") (Str.ofString "immediate_entities") 3 [] .none .none .none (.str (Str.ofString "adacore.scopes") 338) none (.ref 203) .none 0)), #[]⟩
noncomputable def o_205 (P : Params) : Obj := let _ := P; ⟨(.type "tuple"), none, (.seq #[] 0), #[]⟩
noncomputable def o_206 (P : Params) : Obj := let _ := P; ⟨.none, none, (.fields #[]), #[]⟩
noncomputable def o_207 (P : Params) : Obj := let _ := P; ⟨.none, none, (.func (fd (stAt 26) (Str.ofString "stays_shown") (Str.ofString "stays_shown") 0 [] .none .none .none .none none .none .none 0)), #[]⟩
noncomputable def o_208 (P : Params) : Obj := let _ := P; ⟨(.type "code"), none, (.fields #[(.str (Str.ofString "stays_shown") 479), (.str (Str.ofString "stays_shown") 480), (.str (Str.ofString "/claim/cut.py") 481), (.int (135) 0), (.int (2) 0), (.int (0) 0), (.int (0) 0), (.int (3) 0), (.ref 205), (.bool true), (.int (181) 0), (.ref 206), .none, .none, .none, (.ref 207), (.int (482) 0), (.int (135) 0), (.str (Str.ofString "/claim/cut.py") 483)]), #[]⟩
noncomputable def o_209 (P : Params) : Obj := let _ := P; ⟨(.type "function"), none, (.func (fd (stAt 26) (Str.ofString "stays_shown") (Str.ofString "stays_shown") 3 [] .none .none .none (.str (Str.ofString "adacore.scopes") 338) none (.ref 208) .none 0)), #[]⟩
noncomputable def o_210 (P : Params) : Obj := let _ := P; ⟨(.type "tuple"), none, (.seq #[] 0), #[]⟩
noncomputable def o_211 (P : Params) : Obj := let _ := P; ⟨.none, none, (.fields #[]), #[]⟩
noncomputable def o_212 (P : Params) : Obj := let _ := P; ⟨(.type "tuple"), none, (.seq #[(.str (Str.ofString "region") 488), (.str (Str.ofString "entity") 489)] 0), #[]⟩
noncomputable def o_213 (P : Params) : Obj := let _ := P; ⟨(.type "tuple"), none, (.seq #[] 0), #[]⟩
noncomputable def o_214 (P : Params) : Obj := let _ := P; ⟨.none, none, (.func (fd (stAt 27) (Str.ofString "is_offered") (Str.ofString "is_offered") 0 [] .none .none .none .none none .none .none 0)), #[]⟩
noncomputable def o_215 (P : Params) : Obj := let _ := P; ⟨(.type "code"), none, (.fields #[(.str (Str.ofString "is_offered") 485), (.str (Str.ofString "is_offered") 486), (.str (Str.ofString "/claim/cut.py") 487), (.int (142) 0), (.int (2) 0), (.int (0) 0), (.int (0) 0), (.int (3) 0), (.ref 210), (.bool true), (.int (181) 0), (.ref 211), .none, (.ref 212), (.ref 213), (.ref 214), (.int (490) 0), (.int (142) 0), (.str (Str.ofString "/claim/cut.py") 491)]), #[]⟩
noncomputable def o_216 (P : Params) : Obj := let _ := P; ⟨(.type "function"), none, (.func (fd (stAt 27) (Str.ofString "is_offered") (Str.ofString "is_offered") 3 [] .none .none .none (.str (Str.ofString "adacore.scopes") 338) none (.ref 215) .none 0)), #[]⟩
noncomputable def o_217 (P : Params) : Obj := let _ := P; ⟨(.type "tuple"), none, (.seq #[] 0), #[]⟩
noncomputable def o_218 (P : Params) : Obj := let _ := P; ⟨.none, none, (.fields #[]), #[]⟩
noncomputable def o_219 (P : Params) : Obj := let _ := P; ⟨.none, none, (.func (fd (stAt 28) (Str.ofString "offered_operators") (Str.ofString "offered_operators") 0 [] .none .none .none .none none .none .none 0)), #[]⟩
noncomputable def o_220 (P : Params) : Obj := let _ := P; ⟨(.type "code"), none, (.fields #[(.str (Str.ofString "offered_operators") 493), (.str (Str.ofString "offered_operators") 494), (.str (Str.ofString "/claim/cut.py") 495), (.int (146) 0), (.int (3) 0), (.int (0) 0), (.int (0) 0), (.int (3) 0), (.ref 217), (.bool true), (.int (181) 0), (.ref 218), .none, .none, .none, (.ref 219), (.int (496) 0), (.int (146) 0), (.str (Str.ofString "/claim/cut.py") 497)]), #[]⟩
noncomputable def o_221 (P : Params) : Obj := let _ := P; ⟨(.type "function"), none, (.func (fd (stAt 28) (Str.ofString "offered_operators") (Str.ofString "offered_operators") 3 [] .none .none .none (.str (Str.ofString "adacore.scopes") 338) none (.ref 220) .none 0)), #[]⟩
noncomputable def o_222 (P : Params) : Obj := let _ := P; ⟨(.type "tuple"), none, (.seq #[] 0), #[]⟩
noncomputable def o_223 (P : Params) : Obj := let _ := P; ⟨.none, none, (.fields #[]), #[]⟩
noncomputable def o_224 (P : Params) : Obj := let _ := P; ⟨.none, none, (.func (fd (stAt 29) (Str.ofString "formals_beside") (Str.ofString "formals_beside") 0 [] .none .none .none .none none .none .none 0)), #[]⟩
noncomputable def o_225 (P : Params) : Obj := let _ := P; ⟨(.type "code"), none, (.fields #[(.str (Str.ofString "formals_beside") 499), (.str (Str.ofString "formals_beside") 500), (.str (Str.ofString "/claim/cut.py") 501), (.int (152) 0), (.int (2) 0), (.int (0) 0), (.int (0) 0), (.int (3) 0), (.ref 222), (.bool true), (.int (181) 0), (.ref 223), .none, .none, .none, (.ref 224), (.int (502) 0), (.int (152) 0), (.str (Str.ofString "/claim/cut.py") 503)]), #[]⟩
noncomputable def o_226 (P : Params) : Obj := let _ := P; ⟨(.type "function"), none, (.func (fd (stAt 29) (Str.ofString "formals_beside") (Str.ofString "formals_beside") 3 [] .none .none .none (.str (Str.ofString "adacore.scopes") 338) none (.ref 225) .none 0)), #[]⟩
noncomputable def o_227 (P : Params) : Obj := let _ := P; ⟨(.type "tuple"), none, (.seq #[] 0), #[]⟩
noncomputable def o_228 (P : Params) : Obj := let _ := P; ⟨.none, none, (.fields #[]), #[]⟩
noncomputable def o_229 (P : Params) : Obj := let _ := P; ⟨.none, none, (.func (fd (stAt 30) (Str.ofString "offered_entities") (Str.ofString "offered_entities") 0 [] .none .none .none .none none .none .none 0)), #[]⟩
noncomputable def o_230 (P : Params) : Obj := let _ := P; ⟨(.type "code"), none, (.fields #[(.str (Str.ofString "offered_entities") 505), (.str (Str.ofString "offered_entities") 506), (.str (Str.ofString "/claim/cut.py") 507), (.int (158) 0), (.int (2) 0), (.int (0) 0), (.int (0) 0), (.int (3) 0), (.ref 227), (.bool true), (.int (181) 0), (.ref 228), .none, .none, .none, (.ref 229), (.int (508) 0), (.int (158) 0), (.str (Str.ofString "/claim/cut.py") 509)]), #[]⟩
noncomputable def o_231 (P : Params) : Obj := let _ := P; ⟨(.type "function"), none, (.func (fd (stAt 30) (Str.ofString "offered_entities") (Str.ofString "offered_entities") 3 [] .none .none .none (.str (Str.ofString "adacore.scopes") 338) none (.ref 230) .none 0)), #[]⟩
noncomputable def o_232 (P : Params) : Obj := let _ := P; ⟨(.type "tuple"), none, (.seq #[] 0), #[]⟩
noncomputable def o_233 (P : Params) : Obj := let _ := P; ⟨.none, none, (.fields #[]), #[]⟩
noncomputable def o_234 (P : Params) : Obj := let _ := P; ⟨.none, none, (.func (fd (stAt 31) (Str.ofString "look_up") (Str.ofString "look_up") 0 [] .none .none .none .none none .none .none 0)), #[]⟩
noncomputable def o_235 (P : Params) : Obj := let _ := P; ⟨(.type "code"), none, (.fields #[(.str (Str.ofString "look_up") 511), (.str (Str.ofString "look_up") 512), (.str (Str.ofString "/claim/cut.py") 513), (.int (175) 0), (.int (2) 0), (.int (0) 0), (.int (0) 0), (.int (3) 0), (.ref 232), (.bool true), (.int (181) 0), (.ref 233), .none, .none, .none, (.ref 234), (.int (514) 0), (.int (175) 0), (.str (Str.ofString "/claim/cut.py") 515)]), #[]⟩
noncomputable def o_236 (P : Params) : Obj := let _ := P; ⟨(.type "function"), none, (.func (fd (stAt 31) (Str.ofString "look_up") (Str.ofString "look_up") 3 [] .none .none .none (.str (Str.ofString "adacore.scopes") 338) none (.ref 235) .none 0)), #[]⟩
noncomputable def o_237 (P : Params) : Obj := let _ := P; ⟨(.type "tuple"), none, (.seq #[] 0), #[]⟩
noncomputable def o_238 (P : Params) : Obj := let _ := P; ⟨.none, none, (.fields #[]), #[]⟩
noncomputable def o_239 (P : Params) : Obj := let _ := P; ⟨.none, none, (.func (fd (stAt 32) (Str.ofString "select_from") (Str.ofString "select_from") 0 [] .none .none .none .none none .none .none 0)), #[]⟩
noncomputable def o_240 (P : Params) : Obj := let _ := P; ⟨(.type "code"), none, (.fields #[(.str (Str.ofString "select_from") 517), (.str (Str.ofString "select_from") 518), (.str (Str.ofString "/claim/cut.py") 519), (.int (181) 0), (.int (3) 0), (.int (0) 0), (.int (0) 0), (.int (3) 0), (.ref 237), (.bool true), (.int (181) 0), (.ref 238), .none, .none, .none, (.ref 239), (.int (520) 0), (.int (181) 0), (.str (Str.ofString "/claim/cut.py") 521)]), #[]⟩
noncomputable def o_241 (P : Params) : Obj := let _ := P; ⟨(.type "function"), none, (.func (fd (stAt 32) (Str.ofString "select_from") (Str.ofString "select_from") 3 [] .none .none .none (.str (Str.ofString "adacore.scopes") 338) none (.ref 240) .none 0)), #[]⟩
noncomputable def o_242 (P : Params) : Obj := let _ := P; ⟨(.type "tuple"), none, (.seq #[] 0), #[]⟩
noncomputable def o_243 (P : Params) : Obj := let _ := P; ⟨.none, none, (.fields #[]), #[]⟩
noncomputable def o_244 (P : Params) : Obj := let _ := P; ⟨(.type "tuple"), none, (.seq #[(.str (Str.ofString "entity") 526), (.str (Str.ofString "place") 527)] 0), #[]⟩
noncomputable def o_245 (P : Params) : Obj := let _ := P; ⟨(.type "tuple"), none, (.seq #[] 0), #[]⟩
noncomputable def o_246 (P : Params) : Obj := let _ := P; ⟨.none, none, (.func (fd (stAt 33) (Str.ofString "view_of") (Str.ofString "view_of") 0 [] .none .none .none .none none .none .none 0)), #[]⟩
noncomputable def o_247 (P : Params) : Obj := let _ := P; ⟨(.type "code"), none, (.fields #[(.str (Str.ofString "view_of") 523), (.str (Str.ofString "view_of") 524), (.str (Str.ofString "/claim/cut.py") 525), (.int (195) 0), (.int (2) 0), (.int (0) 0), (.int (0) 0), (.int (3) 0), (.ref 242), (.bool true), (.int (181) 0), (.ref 243), .none, (.ref 244), (.ref 245), (.ref 246), (.int (528) 0), (.int (195) 0), (.str (Str.ofString "/claim/cut.py") 529)]), #[]⟩
noncomputable def o_248 (P : Params) : Obj := let _ := P; ⟨(.type "function"), none, (.func (fd (stAt 33) (Str.ofString "view_of") (Str.ofString "view_of") 3 [] .none .none .none (.str (Str.ofString "adacore.scopes") 338) none (.ref 247) .none 0)), #[]⟩
noncomputable def o_249 (P : Params) : Obj := let _ := P; ⟨(.type "tuple"), none, (.seq #[] 0), #[]⟩
noncomputable def o_250 (P : Params) : Obj := let _ := P; ⟨.none, none, (.fields #[]), #[]⟩
noncomputable def o_251 (P : Params) : Obj := let _ := P; ⟨(.type "tuple"), none, (.seq #[(.str (Str.ofString "place") 534), (.str (Str.ofString "entity") 535)] 0), #[]⟩
noncomputable def o_252 (P : Params) : Obj := let _ := P; ⟨(.type "tuple"), none, (.seq #[] 0), #[]⟩
noncomputable def o_253 (P : Params) : Obj := let _ := P; ⟨.none, none, (.func (fd (stAt 34) (Str.ofString "ups_to") (Str.ofString "ups_to") 0 [] .none .none .none .none none .none .none 0)), #[]⟩
noncomputable def o_254 (P : Params) : Obj := let _ := P; ⟨(.type "code"), none, (.fields #[(.str (Str.ofString "ups_to") 531), (.str (Str.ofString "ups_to") 532), (.str (Str.ofString "/claim/cut.py") 533), (.int (199) 0), (.int (2) 0), (.int (0) 0), (.int (0) 0), (.int (3) 0), (.ref 249), (.bool true), (.int (181) 0), (.ref 250), .none, (.ref 251), (.ref 252), (.ref 253), (.int (536) 0), (.int (199) 0), (.str (Str.ofString "/claim/cut.py") 537)]), #[]⟩
noncomputable def o_255 (P : Params) : Obj := let _ := P; ⟨(.type "function"), none, (.func (fd (stAt 34) (Str.ofString "ups_to") (Str.ofString "ups_to") 3 [] .none .none .none (.str (Str.ofString "adacore.scopes") 338) none (.ref 254) .none 0)), #[]⟩
noncomputable def o_256 (P : Params) : Obj := let _ := P; ⟨(.type "tuple"), none, (.seq #[] 0), #[]⟩
noncomputable def o_257 (P : Params) : Obj := let _ := P; ⟨(.type "builtin_function_or_method"), none, (.fields #[(.builtin "type.__prepare__"), (.type "type")]), #[]⟩
noncomputable def o_258 (P : Params) : Obj := ⟨(.type "dict"), none, (.dict #[⟨PyData.keyHash P (Str.ofString "__module__"), (.str (Str.ofString "__module__") 548), (.str (Str.ofString "adacore.types") 539)⟩, ⟨PyData.keyHash P (Str.ofString "__qualname__"), (.str (Str.ofString "__qualname__") 550), (.str (Str.ofString "Type") 549)⟩, ⟨PyData.keyHash P (Str.ofString "__firstlineno__"), (.str (Str.ofString "__firstlineno__") 552), (.int (202) 551)⟩, ⟨PyData.keyHash P (Str.ofString "__init__"), (.str (Str.ofString "__init__") 561), (.ref 269)⟩, ⟨PyData.keyHash P (Str.ofString "__static_attributes__"), (.str (Str.ofString "__static_attributes__") 586), (.ref 270)⟩] 5), #[]⟩
noncomputable def o_259 (P : Params) : Obj := let _ := P; ⟨(.type "tuple"), none, (.seq #[] 0), #[]⟩
noncomputable def o_260 (P : Params) : Obj := let _ := P; ⟨.none, none, (.fields #[(.int (204) 0), (.int (4) 0), (.ref 268)]), #[]⟩
noncomputable def o_261 (P : Params) : Obj := let _ := P; ⟨(.type "code"), none, (.fields #[(.str (Str.ofString "Type") 543), (.str (Str.ofString "Type") 544), (.str (Str.ofString "/claim/cut.py") 545), (.int (202) 0), (.int (0) 0), (.int (0) 0), (.int (0) 0), (.int (0) 0), (.ref 259), (.bool false), (.int (181) 0), (.ref 260), .none, .none, .none, .none, (.int (546) 0), (.int (202) 0), (.str (Str.ofString "/claim/cut.py") 547)]), #[]⟩
noncomputable def o_262 (P : Params) : Obj := let _ := P; ⟨(.type "frame"), none, .plain, #[(some (.ref 261)), (some (.ref 3)), (some (.ref 258)), none, (some (.str (Str.ofString "adacore.types") 539)), none, (some (.ref 0))]⟩
noncomputable def o_263 (P : Params) : Obj := let _ := P; ⟨(.type "tuple"), none, (.seq #[] 0), #[]⟩
noncomputable def o_264 (P : Params) : Obj := let _ := P; ⟨.none, none, (.fields #[]), #[]⟩
noncomputable def o_265 (P : Params) : Obj := let _ := P; ⟨(.type "tuple"), none, (.seq #[(.str (Str.ofString "self") 556), (.str (Str.ofString "kind") 557), (.str (Str.ofString "name") 558)] 0), #[]⟩
noncomputable def o_266 (P : Params) : Obj := let _ := P; ⟨(.type "tuple"), none, (.seq #[] 0), #[]⟩
noncomputable def o_267 (P : Params) : Obj := let _ := P; ⟨.none, none, (.func (fd (inAt 36 0) (Str.ofString "__init__") (Str.ofString "Type.__init__") 0 [] .none .none .none .none none .none .none 0)), #[]⟩
noncomputable def o_268 (P : Params) : Obj := let _ := P; ⟨(.type "code"), none, (.fields #[(.str (Str.ofString "__init__") 553), (.str (Str.ofString "Type.__init__") 554), (.str (Str.ofString "/claim/cut.py") 555), (.int (204) 0), (.int (3) 0), (.int (0) 0), (.int (0) 0), (.int (3) 0), (.ref 263), (.bool true), (.int (181) 0), (.ref 264), .none, (.ref 265), (.ref 266), (.ref 267), (.int (559) 0), (.int (204) 0), (.str (Str.ofString "/claim/cut.py") 560)]), #[]⟩
noncomputable def o_269 (P : Params) : Obj := let _ := P; ⟨(.type "function"), none, (.func (fd (inAt 36 0) (Str.ofString "__init__") (Str.ofString "Type.__init__") 3 [] .none .none .none (.str (Str.ofString "adacore.types") 539) none (.ref 268) .none 0)), #[]⟩
noncomputable def o_270 (P : Params) : Obj := let _ := P; ⟨(.type "tuple"), none, (.seq #[(.str (Str.ofString "component") 562), (.str (Str.ofString "components") 563), (.str (Str.ofString "designated") 564), (.str (Str.ofString "discriminants") 565), (.str (Str.ofString "high") 566), (.str (Str.ofString "index") 567), (.str (Str.ofString "is_abstract") 568), (.str (Str.ofString "is_constant") 569), (.str (Str.ofString "is_constrained") 570), (.str (Str.ofString "is_late") 571), (.str (Str.ofString "is_limited") 572), (.str (Str.ofString "is_private") 573), (.str (Str.ofString "is_tagged") 574), (.str (Str.ofString "kind") 575), (.str (Str.ofString "literals") 576), (.str (Str.ofString "low") 577), (.str (Str.ofString "modulus") 578), (.str (Str.ofString "name") 579), (.str (Str.ofString "number") 580), (.str (Str.ofString "operations") 581), (.str (Str.ofString "parent") 582), (.str (Str.ofString "small") 583), (.str (Str.ofString "variant") 584), (.str (Str.ofString "wide") 585)] 0), #[]⟩
noncomputable def o_271 (P : Params) : Obj := ⟨(.type "dict"), none, (.dict #[⟨PyData.keyHash P (Str.ofString "__module__"), (.str (Str.ofString "__module__") 548), (.str (Str.ofString "adacore.types") 539)⟩, ⟨PyData.keyHash P (Str.ofString "__firstlineno__"), (.str (Str.ofString "__firstlineno__") 552), (.int (202) 551)⟩, ⟨PyData.keyHash P (Str.ofString "__init__"), (.str (Str.ofString "__init__") 561), (.ref 269)⟩, ⟨PyData.keyHash P (Str.ofString "__static_attributes__"), (.str (Str.ofString "__static_attributes__") 586), (.ref 270)⟩, ⟨PyData.keyHash P (Str.ofString "__dict__"), (.str (Str.ofString "__dict__") 588), (.ref 273)⟩, ⟨PyData.keyHash P (Str.ofString "__weakref__"), (.str (Str.ofString "__weakref__") 590), (.ref 274)⟩, ⟨PyData.keyHash P (Str.ofString "__doc__"), (.str (Str.ofString "__doc__") 591), .none⟩] 4), #[]⟩
noncomputable def o_272 (P : Params) : Obj := let _ := P; ⟨(.type "type"), none, (.cls ⟨(Str.ofString "Type"), [(.type "object")], [(.ref 272), (.type "object")], 271, (Str.ofString "Type"), true, [], [], false, none, false⟩), #[none, none, (some (.str (Str.ofString "Type") 541)), (some (.str (Str.ofString "Type") 549)), (some (.builtin "object.__new__")), (some (.bool true))]⟩
noncomputable def o_273 (P : Params) : Obj := let _ := P; ⟨(.type "getset_descriptor"), none, (.fields #[(.str (Str.ofString "__dict__") 587), (.ref 272), (.builtin "function.__dict__"), (.builtin "function.__dict__#set")]), #[]⟩
noncomputable def o_274 (P : Params) : Obj := let _ := P; ⟨(.type "getset_descriptor"), none, (.fields #[(.str (Str.ofString "__weakref__") 589), (.ref 272), (.builtin "ExceptionGroup.__weakref__"), .none]), #[]⟩
noncomputable def o_275 (P : Params) : Obj := let _ := P; ⟨(.type "super"), none, (.fields #[(.ref 272), (.ref 272), (.ref 272)]), #[]⟩
noncomputable def o_276 (P : Params) : Obj := let _ := P; ⟨(.type "builtin_function_or_method"), none, (.fields #[(.builtin "object.__init_subclass__"), (.ref 272)]), #[]⟩
noncomputable def o_277 (P : Params) : Obj := let _ := P; ⟨(.type "tuple"), none, (.seq #[] 0), #[]⟩
noncomputable def o_278 (P : Params) : Obj := let _ := P; ⟨(.type "builtin_function_or_method"), none, (.fields #[(.builtin "type.__prepare__"), (.type "type")]), #[]⟩
noncomputable def o_279 (P : Params) : Obj := ⟨(.type "dict"), none, (.dict #[⟨PyData.keyHash P (Str.ofString "__module__"), (.str (Str.ofString "__module__") 601), (.str (Str.ofString "adacore.types") 539)⟩, ⟨PyData.keyHash P (Str.ofString "__qualname__"), (.str (Str.ofString "__qualname__") 603), (.str (Str.ofString "Subtype") 602)⟩, ⟨PyData.keyHash P (Str.ofString "__firstlineno__"), (.str (Str.ofString "__firstlineno__") 605), (.int (229) 604)⟩, ⟨PyData.keyHash P (Str.ofString "__init__"), (.str (Str.ofString "__init__") 614), (.ref 290)⟩, ⟨PyData.keyHash P (Str.ofString "__static_attributes__"), (.str (Str.ofString "__static_attributes__") 617), (.ref 291)⟩] 5), #[]⟩
noncomputable def o_280 (P : Params) : Obj := let _ := P; ⟨(.type "tuple"), none, (.seq #[] 0), #[]⟩
noncomputable def o_281 (P : Params) : Obj := let _ := P; ⟨.none, none, (.fields #[(.int (231) 0), (.int (4) 0), (.ref 289)]), #[]⟩
noncomputable def o_282 (P : Params) : Obj := let _ := P; ⟨(.type "code"), none, (.fields #[(.str (Str.ofString "Subtype") 596), (.str (Str.ofString "Subtype") 597), (.str (Str.ofString "/claim/cut.py") 598), (.int (229) 0), (.int (0) 0), (.int (0) 0), (.int (0) 0), (.int (0) 0), (.ref 280), (.bool false), (.int (181) 0), (.ref 281), .none, .none, .none, .none, (.int (599) 0), (.int (229) 0), (.str (Str.ofString "/claim/cut.py") 600)]), #[]⟩
noncomputable def o_283 (P : Params) : Obj := let _ := P; ⟨(.type "frame"), none, .plain, #[(some (.ref 282)), (some (.ref 3)), (some (.ref 279)), none, (some (.str (Str.ofString "adacore.types") 539)), none, (some (.ref 0))]⟩
noncomputable def o_284 (P : Params) : Obj := let _ := P; ⟨(.type "tuple"), none, (.seq #[] 0), #[]⟩
noncomputable def o_285 (P : Params) : Obj := let _ := P; ⟨.none, none, (.fields #[]), #[]⟩
noncomputable def o_286 (P : Params) : Obj := let _ := P; ⟨(.type "tuple"), none, (.seq #[(.str (Str.ofString "self") 609), (.str (Str.ofString "t") 610), (.str (Str.ofString "constraint") 611)] 0), #[]⟩
noncomputable def o_287 (P : Params) : Obj := let _ := P; ⟨(.type "tuple"), none, (.seq #[] 0), #[]⟩
noncomputable def o_288 (P : Params) : Obj := let _ := P; ⟨.none, none, (.func (fd (inAt 37 0) (Str.ofString "__init__") (Str.ofString "Subtype.__init__") 0 [] .none .none .none .none none .none .none 0)), #[]⟩
noncomputable def o_289 (P : Params) : Obj := let _ := P; ⟨(.type "code"), none, (.fields #[(.str (Str.ofString "__init__") 606), (.str (Str.ofString "Subtype.__init__") 607), (.str (Str.ofString "/claim/cut.py") 608), (.int (231) 0), (.int (3) 0), (.int (0) 0), (.int (0) 0), (.int (3) 0), (.ref 284), (.bool true), (.int (181) 0), (.ref 285), .none, (.ref 286), (.ref 287), (.ref 288), (.int (612) 0), (.int (231) 0), (.str (Str.ofString "/claim/cut.py") 613)]), #[]⟩
noncomputable def o_290 (P : Params) : Obj := let _ := P; ⟨(.type "function"), none, (.func (fd (inAt 37 0) (Str.ofString "__init__") (Str.ofString "Subtype.__init__") 3 [] .none .none .none (.str (Str.ofString "adacore.types") 539) none (.ref 289) .none 0)), #[]⟩
noncomputable def o_291 (P : Params) : Obj := let _ := P; ⟨(.type "tuple"), none, (.seq #[(.str (Str.ofString "constraint") 615), (.str (Str.ofString "type") 616)] 0), #[]⟩
noncomputable def o_292 (P : Params) : Obj := ⟨(.type "dict"), none, (.dict #[⟨PyData.keyHash P (Str.ofString "__module__"), (.str (Str.ofString "__module__") 601), (.str (Str.ofString "adacore.types") 539)⟩, ⟨PyData.keyHash P (Str.ofString "__firstlineno__"), (.str (Str.ofString "__firstlineno__") 605), (.int (229) 604)⟩, ⟨PyData.keyHash P (Str.ofString "__init__"), (.str (Str.ofString "__init__") 614), (.ref 290)⟩, ⟨PyData.keyHash P (Str.ofString "__static_attributes__"), (.str (Str.ofString "__static_attributes__") 617), (.ref 291)⟩, ⟨PyData.keyHash P (Str.ofString "__dict__"), (.str (Str.ofString "__dict__") 619), (.ref 294)⟩, ⟨PyData.keyHash P (Str.ofString "__weakref__"), (.str (Str.ofString "__weakref__") 621), (.ref 295)⟩, ⟨PyData.keyHash P (Str.ofString "__doc__"), (.str (Str.ofString "__doc__") 622), .none⟩] 4), #[]⟩
noncomputable def o_293 (P : Params) : Obj := let _ := P; ⟨(.type "type"), none, (.cls ⟨(Str.ofString "Subtype"), [(.type "object")], [(.ref 293), (.type "object")], 292, (Str.ofString "Subtype"), true, [], [], false, none, false⟩), #[none, none, (some (.str (Str.ofString "Subtype") 594)), (some (.str (Str.ofString "Subtype") 602)), (some (.builtin "object.__new__")), (some (.bool true))]⟩
noncomputable def o_294 (P : Params) : Obj := let _ := P; ⟨(.type "getset_descriptor"), none, (.fields #[(.str (Str.ofString "__dict__") 618), (.ref 293), (.builtin "function.__dict__"), (.builtin "function.__dict__#set")]), #[]⟩
noncomputable def o_295 (P : Params) : Obj := let _ := P; ⟨(.type "getset_descriptor"), none, (.fields #[(.str (Str.ofString "__weakref__") 620), (.ref 293), (.builtin "ExceptionGroup.__weakref__"), .none]), #[]⟩
noncomputable def o_296 (P : Params) : Obj := let _ := P; ⟨(.type "super"), none, (.fields #[(.ref 293), (.ref 293), (.ref 293)]), #[]⟩
noncomputable def o_297 (P : Params) : Obj := let _ := P; ⟨(.type "builtin_function_or_method"), none, (.fields #[(.builtin "object.__init_subclass__"), (.ref 293)]), #[]⟩
noncomputable def o_298 (P : Params) : Obj := let _ := P; ⟨(.type "tuple"), none, (.seq #[] 0), #[]⟩
noncomputable def o_299 (P : Params) : Obj := let _ := P; ⟨.none, none, (.fields #[]), #[]⟩
noncomputable def o_300 (P : Params) : Obj := let _ := P; ⟨(.type "tuple"), none, (.seq #[(.str (Str.ofString "name") 628), (.str (Str.ofString "low") 629), (.str (Str.ofString "high") 630), (.str (Str.ofString "made") 631)] 0), #[]⟩
noncomputable def o_301 (P : Params) : Obj := let _ := P; ⟨(.type "tuple"), none, (.seq #[] 0), #[]⟩
noncomputable def o_302 (P : Params) : Obj := let _ := P; ⟨.none, none, (.func (fd (stAt 38) (Str.ofString "int_type") (Str.ofString "int_type") 0 [] .none .none .none .none none .none .none 0)), #[]⟩
noncomputable def o_303 (P : Params) : Obj := let _ := P; ⟨(.type "code"), none, (.fields #[(.str (Str.ofString "int_type") 625), (.str (Str.ofString "int_type") 626), (.str (Str.ofString "/claim/cut.py") 627), (.int (234) 0), (.int (3) 0), (.int (0) 0), (.int (0) 0), (.int (3) 0), (.ref 298), (.bool true), (.int (181) 0), (.ref 299), .none, (.ref 300), (.ref 301), (.ref 302), (.int (632) 0), (.int (234) 0), (.str (Str.ofString "/claim/cut.py") 633)]), #[]⟩
noncomputable def o_304 (P : Params) : Obj := let _ := P; ⟨(.type "function"), none, (.func (fd (stAt 38) (Str.ofString "int_type") (Str.ofString "int_type") 3 [] .none .none .none (.str (Str.ofString "adacore.types") 539) none (.ref 303) .none 0)), #[]⟩
noncomputable def o_305 (P : Params) : Obj := let _ := P; ⟨(.type "tuple"), none, (.seq #[] 0), #[]⟩
noncomputable def o_306 (P : Params) : Obj := let _ := P; ⟨.none, none, (.fields #[]), #[]⟩
noncomputable def o_307 (P : Params) : Obj := let _ := P; ⟨(.type "tuple"), none, (.seq #[(.str (Str.ofString "parent") 638), (.str (Str.ofString "name") 639), (.str (Str.ofString "made") 640)] 0), #[]⟩
noncomputable def o_308 (P : Params) : Obj := let _ := P; ⟨(.type "tuple"), none, (.seq #[] 0), #[]⟩
noncomputable def o_309 (P : Params) : Obj := let _ := P; ⟨.none, none, (.func (fd (stAt 39) (Str.ofString "derived_type") (Str.ofString "derived_type") 0 [] .none .none .none .none none .none .none 0)), #[]⟩
noncomputable def o_310 (P : Params) : Obj := let _ := P; ⟨(.type "code"), none, (.fields #[(.str (Str.ofString "derived_type") 635), (.str (Str.ofString "derived_type") 636), (.str (Str.ofString "/claim/cut.py") 637), (.int (239) 0), (.int (2) 0), (.int (0) 0), (.int (0) 0), (.int (3) 0), (.ref 305), (.bool true), (.int (181) 0), (.ref 306), .none, (.ref 307), (.ref 308), (.ref 309), (.int (641) 0), (.int (239) 0), (.str (Str.ofString "/claim/cut.py") 642)]), #[]⟩
noncomputable def o_311 (P : Params) : Obj := let _ := P; ⟨(.type "function"), none, (.func (fd (stAt 39) (Str.ofString "derived_type") (Str.ofString "derived_type") 3 [] .none .none .none (.str (Str.ofString "adacore.types") 539) none (.ref 310) .none 0)), #[]⟩
noncomputable def o_312 (P : Params) : Obj := let _ := P; ⟨(.type "tuple"), none, (.seq #[] 0), #[]⟩
noncomputable def o_313 (P : Params) : Obj := let _ := P; ⟨.none, none, (.fields #[]), #[]⟩
noncomputable def o_314 (P : Params) : Obj := let _ := P; ⟨(.type "tuple"), none, (.seq #[(.str (Str.ofString "t") 647), (.str (Str.ofString "number") 648)] 0), #[]⟩
noncomputable def o_315 (P : Params) : Obj := let _ := P; ⟨(.type "tuple"), none, (.seq #[] 0), #[]⟩
noncomputable def o_316 (P : Params) : Obj := let _ := P; ⟨.none, none, (.func (fd (stAt 40) (Str.ofString "numbered") (Str.ofString "numbered") 0 [] .none .none .none .none none .none .none 0)), #[]⟩
noncomputable def o_317 (P : Params) : Obj := let _ := P; ⟨(.type "code"), none, (.fields #[(.str (Str.ofString "numbered") 644), (.str (Str.ofString "numbered") 645), (.str (Str.ofString "/claim/cut.py") 646), (.int (259) 0), (.int (2) 0), (.int (0) 0), (.int (0) 0), (.int (3) 0), (.ref 312), (.bool true), (.int (181) 0), (.ref 313), .none, (.ref 314), (.ref 315), (.ref 316), (.int (649) 0), (.int (259) 0), (.str (Str.ofString "/claim/cut.py") 650)]), #[]⟩
noncomputable def o_318 (P : Params) : Obj := let _ := P; ⟨(.type "function"), none, (.func (fd (stAt 40) (Str.ofString "numbered") (Str.ofString "numbered") 3 [] .none .none .none (.str (Str.ofString "adacore.types") 539) none (.ref 317) .none 0)), #[]⟩
noncomputable def o_319 (P : Params) : Obj := let _ := P; ⟨(.type "tuple"), none, (.seq #[] 0), #[]⟩
noncomputable def o_320 (P : Params) : Obj := let _ := P; ⟨.none, none, (.fields #[]), #[]⟩
noncomputable def o_321 (P : Params) : Obj := let _ := P; ⟨(.type "tuple"), none, (.seq #[(.str (Str.ofString "a") 655), (.str (Str.ofString "b") 656)] 0), #[]⟩
noncomputable def o_322 (P : Params) : Obj := let _ := P; ⟨(.type "tuple"), none, (.seq #[] 0), #[]⟩
noncomputable def o_323 (P : Params) : Obj := let _ := P; ⟨.none, none, (.func (fd (stAt 41) (Str.ofString "same_type") (Str.ofString "same_type") 0 [] .none .none .none .none none .none .none 0)), #[]⟩
noncomputable def o_324 (P : Params) : Obj := let _ := P; ⟨(.type "code"), none, (.fields #[(.str (Str.ofString "same_type") 652), (.str (Str.ofString "same_type") 653), (.str (Str.ofString "/claim/cut.py") 654), (.int (262) 0), (.int (2) 0), (.int (0) 0), (.int (0) 0), (.int (3) 0), (.ref 319), (.bool true), (.int (181) 0), (.ref 320), .none, (.ref 321), (.ref 322), (.ref 323), (.int (657) 0), (.int (262) 0), (.str (Str.ofString "/claim/cut.py") 658)]), #[]⟩
noncomputable def o_325 (P : Params) : Obj := let _ := P; ⟨(.type "function"), none, (.func (fd (stAt 41) (Str.ofString "same_type") (Str.ofString "same_type") 3 [] .none .none .none (.str (Str.ofString "adacore.types") 539) none (.ref 324) .none 0)), #[]⟩
noncomputable def o_326 (P : Params) : Obj := let _ := P; ⟨(.type "tuple"), none, (.seq #[] 0), #[]⟩
noncomputable def o_327 (P : Params) : Obj := let _ := P; ⟨.none, none, (.fields #[]), #[]⟩
noncomputable def o_328 (P : Params) : Obj := let _ := P; ⟨(.type "tuple"), none, (.seq #[(.str (Str.ofString "t") 663)] 0), #[]⟩
noncomputable def o_329 (P : Params) : Obj := let _ := P; ⟨(.type "tuple"), none, (.seq #[] 0), #[]⟩
noncomputable def o_330 (P : Params) : Obj := let _ := P; ⟨.none, none, (.func (fd (stAt 42) (Str.ofString "whole_subtype") (Str.ofString "whole_subtype") 0 [] .none .none .none .none none .none .none 0)), #[]⟩
noncomputable def o_331 (P : Params) : Obj := let _ := P; ⟨(.type "code"), none, (.fields #[(.str (Str.ofString "whole_subtype") 660), (.str (Str.ofString "whole_subtype") 661), (.str (Str.ofString "/claim/cut.py") 662), (.int (264) 0), (.int (1) 0), (.int (0) 0), (.int (0) 0), (.int (3) 0), (.ref 326), (.bool true), (.int (181) 0), (.ref 327), .none, (.ref 328), (.ref 329), (.ref 330), (.int (664) 0), (.int (264) 0), (.str (Str.ofString "/claim/cut.py") 665)]), #[]⟩
noncomputable def o_332 (P : Params) : Obj := let _ := P; ⟨(.type "function"), none, (.func (fd (stAt 42) (Str.ofString "whole_subtype") (Str.ofString "whole_subtype") 3 [] .none .none .none (.str (Str.ofString "adacore.types") 539) none (.ref 331) .none 0)), #[]⟩
noncomputable def o_333 (P : Params) : Obj := let _ := P; ⟨(.type "tuple"), none, (.seq #[] 0), #[]⟩
noncomputable def o_334 (P : Params) : Obj := let _ := P; ⟨.none, none, (.fields #[]), #[]⟩
noncomputable def o_335 (P : Params) : Obj := let _ := P; ⟨(.type "tuple"), none, (.seq #[(.str (Str.ofString "scope") 672), (.str (Str.ofString "one") 673), (.str (Str.ofString "head") 674), (.str (Str.ofString "made") 675)] 0), #[]⟩
noncomputable def o_336 (P : Params) : Obj := let _ := P; ⟨(.type "tuple"), none, (.seq #[] 0), #[]⟩
noncomputable def o_337 (P : Params) : Obj := let _ := P; ⟨.none, none, (.func (fd (stAt 44) (Str.ofString "seen_class") (Str.ofString "seen_class") 0 [] .none .none .none .none none .none .none 0)), #[]⟩
noncomputable def o_338 (P : Params) : Obj := let _ := P; ⟨(.type "code"), none, (.fields #[(.str (Str.ofString "seen_class") 669), (.str (Str.ofString "seen_class") 670), (.str (Str.ofString "/claim/cut.py") 671), (.int (267) 0), (.int (2) 0), (.int (0) 0), (.int (0) 0), (.int (3) 0), (.ref 333), (.bool true), (.int (181) 0), (.ref 334), .none, (.ref 335), (.ref 336), (.ref 337), (.int (676) 0), (.int (267) 0), (.str (Str.ofString "/claim/cut.py") 677)]), #[]⟩
noncomputable def o_339 (P : Params) : Obj := let _ := P; ⟨(.type "function"), none, (.func (fd (stAt 44) (Str.ofString "seen_class") (Str.ofString "seen_class") 3 [] .none .none .none (.str (Str.ofString "adacore.meanings") 667) none (.ref 338) .none 0)), #[]⟩
noncomputable def o_340 (P : Params) : Obj := let _ := P; ⟨(.type "tuple"), none, (.seq #[] 0), #[]⟩
noncomputable def o_341 (P : Params) : Obj := let _ := P; ⟨.none, none, (.fields #[]), #[]⟩
noncomputable def o_342 (P : Params) : Obj := let _ := P; ⟨(.type "tuple"), none, (.seq #[(.str (Str.ofString "scope") 682), (.str (Str.ofString "one") 683), (.str (Str.ofString "homes") 684), (.str (Str.ofString "entity") 685)] 0), #[]⟩
noncomputable def o_343 (P : Params) : Obj := let _ := P; ⟨(.type "tuple"), none, (.seq #[] 0), #[]⟩
noncomputable def o_344 (P : Params) : Obj := let _ := P; ⟨.none, none, (.func (fd (stAt 45) (Str.ofString "seen_type") (Str.ofString "seen_type") 0 [] .none .none .none .none none .none .none 0)), #[]⟩
noncomputable def o_345 (P : Params) : Obj := let _ := P; ⟨(.type "code"), none, (.fields #[(.str (Str.ofString "seen_type") 679), (.str (Str.ofString "seen_type") 680), (.str (Str.ofString "/claim/cut.py") 681), (.int (280) 0), (.int (2) 0), (.int (0) 0), (.int (0) 0), (.int (3) 0), (.ref 340), (.bool true), (.int (181) 0), (.ref 341), .none, (.ref 342), (.ref 343), (.ref 344), (.int (686) 0), (.int (280) 0), (.str (Str.ofString "/claim/cut.py") 687)]), #[]⟩
noncomputable def o_346 (P : Params) : Obj := let _ := P; ⟨(.type "function"), none, (.func (fd (stAt 45) (Str.ofString "seen_type") (Str.ofString "seen_type") 3 [] .none .none .none (.str (Str.ofString "adacore.meanings") 667) none (.ref 345) .none 0)), #[]⟩
noncomputable def o_347 (P : Params) : Obj := let _ := P; ⟨(.type "tuple"), none, (.seq #[] 0), #[]⟩
noncomputable def o_348 (P : Params) : Obj := let _ := P; ⟨.none, none, (.fields #[]), #[]⟩
noncomputable def o_349 (P : Params) : Obj := let _ := P; ⟨(.type "tuple"), none, (.seq #[(.str (Str.ofString "scope") 692), (.str (Str.ofString "node") 693), (.str (Str.ofString "found") 694), (.str (Str.ofString "entity") 695)] 0), #[]⟩
noncomputable def o_350 (P : Params) : Obj := let _ := P; ⟨(.type "tuple"), none, (.seq #[] 0), #[]⟩
noncomputable def o_351 (P : Params) : Obj := let _ := P; ⟨.none, none, (.func (fd (stAt 46) (Str.ofString "named_entities") (Str.ofString "named_entities") 0 [] .none .none .none .none none .none .none 0)), #[]⟩
noncomputable def o_352 (P : Params) : Obj := let _ := P; ⟨(.type "code"), none, (.fields #[(.str (Str.ofString "named_entities") 689), (.str (Str.ofString "named_entities") 690), (.str (Str.ofString "/claim/cut.py") 691), (.int (290) 0), (.int (2) 0), (.int (0) 0), (.int (0) 0), (.int (3) 0), (.ref 347), (.bool true), (.int (181) 0), (.ref 348), .none, (.ref 349), (.ref 350), (.ref 351), (.int (696) 0), (.int (290) 0), (.str (Str.ofString "/claim/cut.py") 697)]), #[]⟩
noncomputable def o_353 (P : Params) : Obj := let _ := P; ⟨(.type "function"), none, (.func (fd (stAt 46) (Str.ofString "named_entities") (Str.ofString "named_entities") 3 [] .none .none .none (.str (Str.ofString "adacore.meanings") 667) none (.ref 352) .none 0)), #[]⟩
noncomputable def o_354 (P : Params) : Obj := let _ := P; ⟨(.type "tuple"), none, (.seq #[] 0), #[]⟩
noncomputable def o_355 (P : Params) : Obj := let _ := P; ⟨.none, none, (.fields #[]), #[]⟩
noncomputable def o_356 (P : Params) : Obj := let _ := P; ⟨(.type "tuple"), none, (.seq #[(.str (Str.ofString "scope") 704), (.str (Str.ofString "entity") 705)] 0), #[]⟩
noncomputable def o_357 (P : Params) : Obj := let _ := P; ⟨(.type "tuple"), none, (.seq #[] 0), #[]⟩
noncomputable def o_358 (P : Params) : Obj := let _ := P; ⟨.none, none, (.func (fd (stAt 48) (Str.ofString "frames_to") (Str.ofString "frames_to") 0 [] .none .none .none .none none .none .none 0)), #[]⟩
noncomputable def o_359 (P : Params) : Obj := let _ := P; ⟨(.type "code"), none, (.fields #[(.str (Str.ofString "frames_to") 701), (.str (Str.ofString "frames_to") 702), (.str (Str.ofString "/claim/cut.py") 703), (.int (300) 0), (.int (2) 0), (.int (0) 0), (.int (0) 0), (.int (3) 0), (.ref 354), (.bool true), (.int (181) 0), (.ref 355), .none, (.ref 356), (.ref 357), (.ref 358), (.int (706) 0), (.int (300) 0), (.str (Str.ofString "/claim/cut.py") 707)]), #[]⟩
noncomputable def o_360 (P : Params) : Obj := let _ := P; ⟨(.type "function"), none, (.func (fd (stAt 48) (Str.ofString "frames_to") (Str.ofString "frames_to") 3 [] .none .none .none (.str (Str.ofString "adacore.opnames") 699) none (.ref 359) .none 0)), #[]⟩
noncomputable def o_361 (P : Params) : Obj := let _ := P; ⟨(.type "tuple"), none, (.seq #[] 0), #[]⟩
noncomputable def o_362 (P : Params) : Obj := let _ := P; ⟨.none, none, (.fields #[]), #[]⟩
noncomputable def o_363 (P : Params) : Obj := let _ := P; ⟨(.type "tuple"), none, (.seq #[(.str (Str.ofString "scope") 714), (.str (Str.ofString "text") 715)] 0), #[]⟩
noncomputable def o_364 (P : Params) : Obj := let _ := P; ⟨(.type "tuple"), none, (.seq #[] 0), #[]⟩
noncomputable def o_365 (P : Params) : Obj := let _ := P; ⟨.none, none, (.func (fd (stAt 50) (Str.ofString "refuse") (Str.ofString "refuse") 0 [] .none .none .none .none none .none .none 0)), #[]⟩
noncomputable def o_366 (P : Params) : Obj := let _ := P; ⟨(.type "code"), none, (.fields #[(.str (Str.ofString "refuse") 711), (.str (Str.ofString "refuse") 712), (.str (Str.ofString "/claim/cut.py") 713), (.int (303) 0), (.int (2) 0), (.int (0) 0), (.int (0) 0), (.int (3) 0), (.ref 361), (.bool true), (.int (181) 0), (.ref 362), .none, (.ref 363), (.ref 364), (.ref 365), (.int (716) 0), (.int (303) 0), (.str (Str.ofString "/claim/cut.py") 717)]), #[]⟩
noncomputable def o_367 (P : Params) : Obj := let _ := P; ⟨(.type "function"), none, (.func (fd (stAt 50) (Str.ofString "refuse") (Str.ofString "refuse") 3 [] .none .none .none (.str (Str.ofString "adacore.rnames") 709) none (.ref 366) .none 0)), #[]⟩
noncomputable def o_368 (P : Params) : Obj := let _ := P; ⟨(.type "tuple"), none, (.seq #[] 0), #[]⟩
noncomputable def o_369 (P : Params) : Obj := let _ := P; ⟨.none, none, (.fields #[]), #[]⟩
noncomputable def o_370 (P : Params) : Obj := let _ := P; ⟨(.type "tuple"), none, (.seq #[(.str (Str.ofString "scope") 722), (.str (Str.ofString "node") 723), (.str (Str.ofString "row") 724)] 0), #[]⟩
noncomputable def o_371 (P : Params) : Obj := let _ := P; ⟨(.type "tuple"), none, (.seq #[] 0), #[]⟩
noncomputable def o_372 (P : Params) : Obj := let _ := P; ⟨.none, none, (.func (fd (stAt 51) (Str.ofString "type_entity") (Str.ofString "type_entity") 0 [] .none .none .none .none none .none .none 0)), #[]⟩
noncomputable def o_373 (P : Params) : Obj := let _ := P; ⟨(.type "code"), none, (.fields #[(.str (Str.ofString "type_entity") 719), (.str (Str.ofString "type_entity") 720), (.str (Str.ofString "/claim/cut.py") 721), (.int (305) 0), (.int (2) 0), (.int (0) 0), (.int (0) 0), (.int (3) 0), (.ref 368), (.bool true), (.int (181) 0), (.ref 369), .none, (.ref 370), (.ref 371), (.ref 372), (.int (725) 0), (.int (305) 0), (.str (Str.ofString "/claim/cut.py") 726)]), #[]⟩
noncomputable def o_374 (P : Params) : Obj := let _ := P; ⟨(.type "function"), none, (.func (fd (stAt 51) (Str.ofString "type_entity") (Str.ofString "type_entity") 3 [] .none .none .none (.str (Str.ofString "adacore.rnames") 709) none (.ref 373) .none 0)), #[]⟩
noncomputable def o_375 (P : Params) : Obj := let _ := P; ⟨(.type "tuple"), none, (.seq #[] 0), #[]⟩
noncomputable def o_376 (P : Params) : Obj := let _ := P; ⟨.none, none, (.fields #[]), #[]⟩
noncomputable def o_377 (P : Params) : Obj := let _ := P; ⟨(.type "tuple"), none, (.seq #[(.str (Str.ofString "subtype") 731), (.str (Str.ofString "constraint") 732), (.str (Str.ofString "pair") 733), (.str (Str.ofString "part") 734)] 0), #[]⟩
noncomputable def o_378 (P : Params) : Obj := let _ := P; ⟨(.type "tuple"), none, (.seq #[] 0), #[]⟩
noncomputable def o_379 (P : Params) : Obj := let _ := P; ⟨.none, none, (.func (fd (stAt 52) (Str.ofString "is_settled") (Str.ofString "is_settled") 0 [] .none .none .none .none none .none .none 0)), #[]⟩
noncomputable def o_380 (P : Params) : Obj := let _ := P; ⟨(.type "code"), none, (.fields #[(.str (Str.ofString "is_settled") 728), (.str (Str.ofString "is_settled") 729), (.str (Str.ofString "/claim/cut.py") 730), (.int (310) 0), (.int (1) 0), (.int (0) 0), (.int (0) 0), (.int (3) 0), (.ref 375), (.bool true), (.int (181) 0), (.ref 376), .none, (.ref 377), (.ref 378), (.ref 379), (.int (735) 0), (.int (310) 0), (.str (Str.ofString "/claim/cut.py") 736)]), #[]⟩
noncomputable def o_381 (P : Params) : Obj := let _ := P; ⟨(.type "function"), none, (.func (fd (stAt 52) (Str.ofString "is_settled") (Str.ofString "is_settled") 3 [] .none .none .none (.str (Str.ofString "adacore.rnames") 709) none (.ref 380) .none 0)), #[]⟩
noncomputable def o_382 (P : Params) : Obj := let _ := P; ⟨(.type "tuple"), none, (.seq #[] 0), #[]⟩
noncomputable def o_383 (P : Params) : Obj := let _ := P; ⟨.none, none, (.fields #[]), #[]⟩
noncomputable def o_384 (P : Params) : Obj := let _ := P; ⟨(.type "tuple"), none, (.seq #[(.str (Str.ofString "scope") 741), (.str (Str.ofString "told") 742), (.str (Str.ofString "t") 743)] 0), #[]⟩
noncomputable def o_385 (P : Params) : Obj := let _ := P; ⟨(.type "tuple"), none, (.seq #[] 0), #[]⟩
noncomputable def o_386 (P : Params) : Obj := let _ := P; ⟨.none, none, (.func (fd (stAt 53) (Str.ofString "seen_subtype") (Str.ofString "seen_subtype") 0 [] .none .none .none .none none .none .none 0)), #[]⟩
noncomputable def o_387 (P : Params) : Obj := let _ := P; ⟨(.type "code"), none, (.fields #[(.str (Str.ofString "seen_subtype") 738), (.str (Str.ofString "seen_subtype") 739), (.str (Str.ofString "/claim/cut.py") 740), (.int (323) 0), (.int (2) 0), (.int (0) 0), (.int (0) 0), (.int (3) 0), (.ref 382), (.bool true), (.int (181) 0), (.ref 383), .none, (.ref 384), (.ref 385), (.ref 386), (.int (744) 0), (.int (323) 0), (.str (Str.ofString "/claim/cut.py") 745)]), #[]⟩
noncomputable def o_388 (P : Params) : Obj := let _ := P; ⟨(.type "function"), none, (.func (fd (stAt 53) (Str.ofString "seen_subtype") (Str.ofString "seen_subtype") 3 [] .none .none .none (.str (Str.ofString "adacore.rnames") 709) none (.ref 387) .none 0)), #[]⟩
noncomputable def o_389 (P : Params) : Obj := let _ := P; ⟨(.type "tuple"), none, (.seq #[] 0), #[]⟩
noncomputable def o_390 (P : Params) : Obj := let _ := P; ⟨.none, none, (.fields #[]), #[]⟩
noncomputable def o_391 (P : Params) : Obj := let _ := P; ⟨(.type "tuple"), none, (.seq #[(.str (Str.ofString "scope") 750), (.str (Str.ofString "entity") 751), (.str (Str.ofString "told") 752)] 0), #[]⟩
noncomputable def o_392 (P : Params) : Obj := let _ := P; ⟨(.type "tuple"), none, (.seq #[] 0), #[]⟩
noncomputable def o_393 (P : Params) : Obj := let _ := P; ⟨.none, none, (.func (fd (stAt 54) (Str.ofString "subtype_here") (Str.ofString "subtype_here") 0 [] .none .none .none .none none .none .none 0)), #[]⟩
noncomputable def o_394 (P : Params) : Obj := let _ := P; ⟨(.type "code"), none, (.fields #[(.str (Str.ofString "subtype_here") 747), (.str (Str.ofString "subtype_here") 748), (.str (Str.ofString "/claim/cut.py") 749), (.int (330) 0), (.int (2) 0), (.int (0) 0), (.int (0) 0), (.int (3) 0), (.ref 389), (.bool true), (.int (181) 0), (.ref 390), .none, (.ref 391), (.ref 392), (.ref 393), (.int (753) 0), (.int (330) 0), (.str (Str.ofString "/claim/cut.py") 754)]), #[]⟩
noncomputable def o_395 (P : Params) : Obj := let _ := P; ⟨(.type "function"), none, (.func (fd (stAt 54) (Str.ofString "subtype_here") (Str.ofString "subtype_here") 3 [] .none .none .none (.str (Str.ofString "adacore.rnames") 709) none (.ref 394) .none 0)), #[]⟩
noncomputable def o_396 (P : Params) : Obj := let _ := P; ⟨(.type "tuple"), none, (.seq #[] 0), #[]⟩
noncomputable def o_397 (P : Params) : Obj := let _ := P; ⟨.none, none, (.fields #[]), #[]⟩
noncomputable def o_398 (P : Params) : Obj := let _ := P; ⟨(.type "tuple"), none, (.seq #[(.str (Str.ofString "scope") 759), (.str (Str.ofString "node") 760), (.str (Str.ofString "t") 761), (.str (Str.ofString "wide") 762), (.str (Str.ofString "entity") 763)] 0), #[]⟩
noncomputable def o_399 (P : Params) : Obj := let _ := P; ⟨(.type "tuple"), none, (.seq #[] 0), #[]⟩
noncomputable def o_400 (P : Params) : Obj := let _ := P; ⟨.none, none, (.func (fd (stAt 55) (Str.ofString "type_named") (Str.ofString "type_named") 0 [] .none .none .none .none none .none .none 0)), #[]⟩
noncomputable def o_401 (P : Params) : Obj := let _ := P; ⟨(.type "code"), none, (.fields #[(.str (Str.ofString "type_named") 756), (.str (Str.ofString "type_named") 757), (.str (Str.ofString "/claim/cut.py") 758), (.int (335) 0), (.int (2) 0), (.int (0) 0), (.int (0) 0), (.int (3) 0), (.ref 396), (.bool true), (.int (181) 0), (.ref 397), .none, (.ref 398), (.ref 399), (.ref 400), (.int (764) 0), (.int (335) 0), (.str (Str.ofString "/claim/cut.py") 765)]), #[]⟩
noncomputable def o_402 (P : Params) : Obj := let _ := P; ⟨(.type "function"), none, (.func (fd (stAt 55) (Str.ofString "type_named") (Str.ofString "type_named") 3 [] .none .none .none (.str (Str.ofString "adacore.rnames") 709) none (.ref 401) .none 0)), #[]⟩
noncomputable def o_403 (P : Params) : Obj := let _ := P; ⟨(.type "tuple"), none, (.seq #[] 0), #[]⟩
noncomputable def o_404 (P : Params) : Obj := let _ := P; ⟨(.type "builtin_function_or_method"), none, (.fields #[(.builtin "type.__prepare__"), (.type "type")]), #[]⟩
noncomputable def o_405 (P : Params) : Obj := ⟨(.type "dict"), none, (.dict #[⟨PyData.keyHash P (Str.ofString "__module__"), (.str (Str.ofString "__module__") 776), (.str (Str.ofString "adacore.context") 767)⟩, ⟨PyData.keyHash P (Str.ofString "__qualname__"), (.str (Str.ofString "__qualname__") 778), (.str (Str.ofString "Scope") 777)⟩, ⟨PyData.keyHash P (Str.ofString "__firstlineno__"), (.str (Str.ofString "__firstlineno__") 780), (.int (349) 779)⟩, ⟨PyData.keyHash P (Str.ofString "__init__"), (.str (Str.ofString "__init__") 791), (.ref 416)⟩, ⟨PyData.keyHash P (Str.ofString "__static_attributes__"), (.str (Str.ofString "__static_attributes__") 805), (.ref 417)⟩] 5), #[]⟩
noncomputable def o_406 (P : Params) : Obj := let _ := P; ⟨(.type "tuple"), none, (.seq #[] 0), #[]⟩
noncomputable def o_407 (P : Params) : Obj := let _ := P; ⟨.none, none, (.fields #[(.int (351) 0), (.int (4) 0), (.ref 415)]), #[]⟩
noncomputable def o_408 (P : Params) : Obj := let _ := P; ⟨(.type "code"), none, (.fields #[(.str (Str.ofString "Scope") 771), (.str (Str.ofString "Scope") 772), (.str (Str.ofString "/claim/cut.py") 773), (.int (349) 0), (.int (0) 0), (.int (0) 0), (.int (0) 0), (.int (0) 0), (.ref 406), (.bool false), (.int (181) 0), (.ref 407), .none, .none, .none, .none, (.int (774) 0), (.int (349) 0), (.str (Str.ofString "/claim/cut.py") 775)]), #[]⟩
noncomputable def o_409 (P : Params) : Obj := let _ := P; ⟨(.type "frame"), none, .plain, #[(some (.ref 408)), (some (.ref 3)), (some (.ref 405)), none, (some (.str (Str.ofString "adacore.context") 767)), none, (some (.ref 0))]⟩
noncomputable def o_410 (P : Params) : Obj := let _ := P; ⟨(.type "tuple"), none, (.seq #[] 0), #[]⟩
noncomputable def o_411 (P : Params) : Obj := let _ := P; ⟨.none, none, (.fields #[]), #[]⟩
noncomputable def o_412 (P : Params) : Obj := let _ := P; ⟨(.type "tuple"), none, (.seq #[(.str (Str.ofString "self") 784), (.str (Str.ofString "place") 785), (.str (Str.ofString "limits") 786), (.str (Str.ofString "choose") 787), (.str (Str.ofString "types") 788)] 0), #[]⟩
noncomputable def o_413 (P : Params) : Obj := let _ := P; ⟨(.type "tuple"), none, (.seq #[] 0), #[]⟩
noncomputable def o_414 (P : Params) : Obj := let _ := P; ⟨.none, none, (.func (fd (inAt 57 0) (Str.ofString "__init__") (Str.ofString "Scope.__init__") 0 [] .none .none .none .none none .none .none 0)), #[]⟩
noncomputable def o_415 (P : Params) : Obj := let _ := P; ⟨(.type "code"), none, (.fields #[(.str (Str.ofString "__init__") 781), (.str (Str.ofString "Scope.__init__") 782), (.str (Str.ofString "/claim/cut.py") 783), (.int (351) 0), (.int (5) 0), (.int (0) 0), (.int (0) 0), (.int (3) 0), (.ref 410), (.bool true), (.int (181) 0), (.ref 411), .none, (.ref 412), (.ref 413), (.ref 414), (.int (789) 0), (.int (351) 0), (.str (Str.ofString "/claim/cut.py") 790)]), #[]⟩
noncomputable def o_416 (P : Params) : Obj := let _ := P; ⟨(.type "function"), none, (.func (fd (inAt 57 0) (Str.ofString "__init__") (Str.ofString "Scope.__init__") 3 [] .none .none .none (.str (Str.ofString "adacore.context") 767) none (.ref 415) .none 0)), #[]⟩
noncomputable def o_417 (P : Params) : Obj := let _ := P; ⟨(.type "tuple"), none, (.seq #[(.str (Str.ofString "builders") 792), (.str (Str.ofString "choose") 793), (.str (Str.ofString "count") 794), (.str (Str.ofString "declarations") 795), (.str (Str.ofString "limits") 796), (.str (Str.ofString "line") 797), (.str (Str.ofString "place") 798), (.str (Str.ofString "statements") 799), (.str (Str.ofString "static") 800), (.str (Str.ofString "typed") 801), (.str (Str.ofString "types") 802), (.str (Str.ofString "under_way") 803), (.str (Str.ofString "ways") 804)] 0), #[]⟩
noncomputable def o_418 (P : Params) : Obj := ⟨(.type "dict"), none, (.dict #[⟨PyData.keyHash P (Str.ofString "__module__"), (.str (Str.ofString "__module__") 776), (.str (Str.ofString "adacore.context") 767)⟩, ⟨PyData.keyHash P (Str.ofString "__firstlineno__"), (.str (Str.ofString "__firstlineno__") 780), (.int (349) 779)⟩, ⟨PyData.keyHash P (Str.ofString "__init__"), (.str (Str.ofString "__init__") 791), (.ref 416)⟩, ⟨PyData.keyHash P (Str.ofString "__static_attributes__"), (.str (Str.ofString "__static_attributes__") 805), (.ref 417)⟩, ⟨PyData.keyHash P (Str.ofString "__dict__"), (.str (Str.ofString "__dict__") 807), (.ref 420)⟩, ⟨PyData.keyHash P (Str.ofString "__weakref__"), (.str (Str.ofString "__weakref__") 809), (.ref 421)⟩, ⟨PyData.keyHash P (Str.ofString "__doc__"), (.str (Str.ofString "__doc__") 810), .none⟩] 4), #[]⟩
noncomputable def o_419 (P : Params) : Obj := let _ := P; ⟨(.type "type"), none, (.cls ⟨(Str.ofString "Scope"), [(.type "object")], [(.ref 419), (.type "object")], 418, (Str.ofString "Scope"), true, [], [], false, none, false⟩), #[none, none, (some (.str (Str.ofString "Scope") 769)), (some (.str (Str.ofString "Scope") 777)), (some (.builtin "object.__new__")), (some (.bool true))]⟩
noncomputable def o_420 (P : Params) : Obj := let _ := P; ⟨(.type "getset_descriptor"), none, (.fields #[(.str (Str.ofString "__dict__") 806), (.ref 419), (.builtin "function.__dict__"), (.builtin "function.__dict__#set")]), #[]⟩
noncomputable def o_421 (P : Params) : Obj := let _ := P; ⟨(.type "getset_descriptor"), none, (.fields #[(.str (Str.ofString "__weakref__") 808), (.ref 419), (.builtin "ExceptionGroup.__weakref__"), .none]), #[]⟩
noncomputable def o_422 (P : Params) : Obj := let _ := P; ⟨(.type "super"), none, (.fields #[(.ref 419), (.ref 419), (.ref 419)]), #[]⟩
noncomputable def o_423 (P : Params) : Obj := let _ := P; ⟨(.type "builtin_function_or_method"), none, (.fields #[(.builtin "object.__init_subclass__"), (.ref 419)]), #[]⟩
noncomputable def o_424 (P : Params) : Obj := let _ := P; ⟨(.type "tuple"), none, (.seq #[] 0), #[]⟩
noncomputable def o_425 (P : Params) : Obj := let _ := P; ⟨(.type "builtin_function_or_method"), none, (.fields #[(.builtin "type.__prepare__"), (.type "type")]), #[]⟩
noncomputable def o_426 (P : Params) : Obj := ⟨(.type "dict"), none, (.dict #[⟨PyData.keyHash P (Str.ofString "__module__"), (.str (Str.ofString "__module__") 822), (.str (Str.ofString "adacore.limits") 813)⟩, ⟨PyData.keyHash P (Str.ofString "__qualname__"), (.str (Str.ofString "__qualname__") 824), (.str (Str.ofString "Limits") 823)⟩, ⟨PyData.keyHash P (Str.ofString "__firstlineno__"), (.str (Str.ofString "__firstlineno__") 826), (.int (366) 825)⟩, ⟨PyData.keyHash P (Str.ofString "__init__"), (.str (Str.ofString "__init__") 855), (.ref 438)⟩, ⟨PyData.keyHash P (Str.ofString "__static_attributes__"), (.str (Str.ofString "__static_attributes__") 863), (.ref 439)⟩] 5), #[]⟩
noncomputable def o_427 (P : Params) : Obj := let _ := P; ⟨(.type "tuple"), none, (.seq #[] 0), #[]⟩
noncomputable def o_428 (P : Params) : Obj := let _ := P; ⟨.none, none, (.fields #[(.int (368) 0), (.int (4) 0), (.ref 437)]), #[]⟩
noncomputable def o_429 (P : Params) : Obj := let _ := P; ⟨(.type "code"), none, (.fields #[(.str (Str.ofString "Limits") 817), (.str (Str.ofString "Limits") 818), (.str (Str.ofString "/claim/cut.py") 819), (.int (366) 0), (.int (0) 0), (.int (0) 0), (.int (0) 0), (.int (0) 0), (.ref 427), (.bool false), (.int (181) 0), (.ref 428), .none, .none, .none, .none, (.int (820) 0), (.int (366) 0), (.str (Str.ofString "/claim/cut.py") 821)]), #[]⟩
noncomputable def o_430 (P : Params) : Obj := let _ := P; ⟨(.type "frame"), none, .plain, #[(some (.ref 429)), (some (.ref 3)), (some (.ref 426)), none, (some (.str (Str.ofString "adacore.limits") 813)), none, (some (.ref 0))]⟩
noncomputable def o_431 (P : Params) : Obj := let _ := P; ⟨(.type "tuple"), none, (.seq #[(.int (32) 827), (.int (1000000) 830), (.int (50) 831), (.int (10000) 834), (.int (100000) 837), (.int (50) 838), (.int (1000000) 841)] 0), #[]⟩
noncomputable def o_432 (P : Params) : Obj := let _ := P; ⟨(.type "tuple"), none, (.seq #[] 0), #[]⟩
noncomputable def o_433 (P : Params) : Obj := let _ := P; ⟨.none, none, (.fields #[]), #[]⟩
noncomputable def o_434 (P : Params) : Obj := let _ := P; ⟨(.type "tuple"), none, (.seq #[(.str (Str.ofString "self") 845), (.str (Str.ofString "width") 846), (.str (Str.ofString "steps") 847), (.str (Str.ofString "depth") 848), (.str (Str.ofString "members") 849), (.str (Str.ofString "text") 850), (.str (Str.ofString "tasks") 851), (.str (Str.ofString "heap") 852)] 0), #[]⟩
noncomputable def o_435 (P : Params) : Obj := let _ := P; ⟨(.type "tuple"), none, (.seq #[] 0), #[]⟩
noncomputable def o_436 (P : Params) : Obj := let _ := P; ⟨.none, none, (.func (fd (inAt 59 0) (Str.ofString "__init__") (Str.ofString "Limits.__init__") 0 [] .none .none .none .none none .none .none 0)), #[]⟩
noncomputable def o_437 (P : Params) : Obj := let _ := P; ⟨(.type "code"), none, (.fields #[(.str (Str.ofString "__init__") 842), (.str (Str.ofString "Limits.__init__") 843), (.str (Str.ofString "/claim/cut.py") 844), (.int (368) 0), (.int (8) 0), (.int (0) 0), (.int (0) 0), (.int (3) 0), (.ref 432), (.bool true), (.int (181) 0), (.ref 433), .none, (.ref 434), (.ref 435), (.ref 436), (.int (853) 0), (.int (368) 0), (.str (Str.ofString "/claim/cut.py") 854)]), #[]⟩
noncomputable def o_438 (P : Params) : Obj := let _ := P; ⟨(.type "function"), none, (.func (fd (inAt 59 0) (Str.ofString "__init__") (Str.ofString "Limits.__init__") 3 [] (.ref 431) .none .none (.str (Str.ofString "adacore.limits") 813) none (.ref 437) .none 0)), #[]⟩
noncomputable def o_439 (P : Params) : Obj := let _ := P; ⟨(.type "tuple"), none, (.seq #[(.str (Str.ofString "depth") 856), (.str (Str.ofString "heap") 857), (.str (Str.ofString "members") 858), (.str (Str.ofString "steps") 859), (.str (Str.ofString "tasks") 860), (.str (Str.ofString "text") 861), (.str (Str.ofString "width") 862)] 0), #[]⟩
noncomputable def o_440 (P : Params) : Obj := ⟨(.type "dict"), none, (.dict #[⟨PyData.keyHash P (Str.ofString "__module__"), (.str (Str.ofString "__module__") 822), (.str (Str.ofString "adacore.limits") 813)⟩, ⟨PyData.keyHash P (Str.ofString "__firstlineno__"), (.str (Str.ofString "__firstlineno__") 826), (.int (366) 825)⟩, ⟨PyData.keyHash P (Str.ofString "__init__"), (.str (Str.ofString "__init__") 855), (.ref 438)⟩, ⟨PyData.keyHash P (Str.ofString "__static_attributes__"), (.str (Str.ofString "__static_attributes__") 863), (.ref 439)⟩, ⟨PyData.keyHash P (Str.ofString "__dict__"), (.str (Str.ofString "__dict__") 865), (.ref 442)⟩, ⟨PyData.keyHash P (Str.ofString "__weakref__"), (.str (Str.ofString "__weakref__") 867), (.ref 443)⟩, ⟨PyData.keyHash P (Str.ofString "__doc__"), (.str (Str.ofString "__doc__") 868), .none⟩] 4), #[]⟩
noncomputable def o_441 (P : Params) : Obj := let _ := P; ⟨(.type "type"), none, (.cls ⟨(Str.ofString "Limits"), [(.type "object")], [(.ref 441), (.type "object")], 440, (Str.ofString "Limits"), true, [], [], false, none, false⟩), #[none, none, (some (.str (Str.ofString "Limits") 815)), (some (.str (Str.ofString "Limits") 823)), (some (.builtin "object.__new__")), (some (.bool true))]⟩
noncomputable def o_442 (P : Params) : Obj := let _ := P; ⟨(.type "getset_descriptor"), none, (.fields #[(.str (Str.ofString "__dict__") 864), (.ref 441), (.builtin "function.__dict__"), (.builtin "function.__dict__#set")]), #[]⟩
noncomputable def o_443 (P : Params) : Obj := let _ := P; ⟨(.type "getset_descriptor"), none, (.fields #[(.str (Str.ofString "__weakref__") 866), (.ref 441), (.builtin "ExceptionGroup.__weakref__"), .none]), #[]⟩
noncomputable def o_444 (P : Params) : Obj := let _ := P; ⟨(.type "super"), none, (.fields #[(.ref 441), (.ref 441), (.ref 441)]), #[]⟩
noncomputable def o_445 (P : Params) : Obj := let _ := P; ⟨(.type "builtin_function_or_method"), none, (.fields #[(.builtin "object.__init_subclass__"), (.ref 441)]), #[]⟩
noncomputable def o_446 (P : Params) : Obj := let _ := P; ⟨(.type "tuple"), none, (.seq #[(.int (1) 873), (.int (1) 874), (.int (0) 875), (.int (1) 876), (.int (1) 877), (.int (1) 878)] 0), #[]⟩
noncomputable def o_447 (P : Params) : Obj := let _ := P; ⟨(.type "tuple"), none, (.seq #[] 0), #[]⟩
noncomputable def o_448 (P : Params) : Obj := let _ := P; ⟨.none, none, (.fields #[]), #[]⟩
noncomputable def o_449 (P : Params) : Obj := let _ := P; ⟨(.type "tuple"), none, (.seq #[(.str (Str.ofString "vial") 883), (.str (Str.ofString "many") 884), (.str (Str.ofString "spot") 885)] 0), #[]⟩
noncomputable def o_450 (P : Params) : Obj := let _ := P; ⟨(.type "tuple"), none, (.seq #[] 0), #[]⟩
noncomputable def o_451 (P : Params) : Obj := let _ := P; ⟨.none, none, (.func (fd (stAt 62) (Str.ofString "_law_drop") (Str.ofString "_law_drop") 0 [] .none .none .none .none none .none .none 0)), #[]⟩
noncomputable def o_452 (P : Params) : Obj := let _ := P; ⟨(.type "code"), none, (.fields #[(.str (Str.ofString "_law_drop") 880), (.str (Str.ofString "_law_drop") 881), (.str (Str.ofString "/claim/cut.py") 882), (.int (378) 0), (.int (2) 0), (.int (0) 0), (.int (0) 0), (.int (3) 0), (.ref 447), (.bool true), (.int (181) 0), (.ref 448), .none, (.ref 449), (.ref 450), (.ref 451), (.int (886) 0), (.int (378) 0), (.str (Str.ofString "/claim/cut.py") 887)]), #[]⟩
noncomputable def o_453 (P : Params) : Obj := let _ := P; ⟨(.type "function"), none, (.func (fd (stAt 62) (Str.ofString "_law_drop") (Str.ofString "_law_drop") 3 [] .none .none .none (.str (Str.ofString "law_rg0021_01") 871) none (.ref 452) .none 0)), #[]⟩
noncomputable def o_454 (P : Params) : Obj := let _ := P; ⟨(.type "tuple"), none, (.seq #[] 0), #[]⟩
noncomputable def o_455 (P : Params) : Obj := let _ := P; ⟨.none, none, (.fields #[]), #[]⟩
noncomputable def o_456 (P : Params) : Obj := let _ := P; ⟨(.type "tuple"), none, (.seq #[(.str (Str.ofString "root") 892), (.str (Str.ofString "name") 893), (.str (Str.ofString "number") 894), (.str (Str.ofString "owner") 895), (.str (Str.ofString "region") 896), (.str (Str.ofString "made") 897), (.str (Str.ofString "entity") 898)] 0), #[]⟩
noncomputable def o_457 (P : Params) : Obj := let _ := P; ⟨(.type "tuple"), none, (.seq #[] 0), #[]⟩
noncomputable def o_458 (P : Params) : Obj := let _ := P; ⟨.none, none, (.func (fd (stAt 63) (Str.ofString "_law_private") (Str.ofString "_law_private") 0 [] .none .none .none .none none .none .none 0)), #[]⟩
noncomputable def o_459 (P : Params) : Obj := let _ := P; ⟨(.type "code"), none, (.fields #[(.str (Str.ofString "_law_private") 889), (.str (Str.ofString "_law_private") 890), (.str (Str.ofString "/claim/cut.py") 891), (.int (384) 0), (.int (3) 0), (.int (0) 0), (.int (0) 0), (.int (3) 0), (.ref 454), (.bool true), (.int (181) 0), (.ref 455), .none, (.ref 456), (.ref 457), (.ref 458), (.int (899) 0), (.int (384) 0), (.str (Str.ofString "/claim/cut.py") 900)]), #[]⟩
noncomputable def o_460 (P : Params) : Obj := let _ := P; ⟨(.type "function"), none, (.func (fd (stAt 63) (Str.ofString "_law_private") (Str.ofString "_law_private") 3 [] .none .none .none (.str (Str.ofString "law_rg0021_01") 871) none (.ref 459) .none 0)), #[]⟩
noncomputable def o_461 (P : Params) : Obj := let _ := P; ⟨(.type "tuple"), none, (.seq #[] 0), #[]⟩
noncomputable def o_462 (P : Params) : Obj := let _ := P; ⟨.none, none, (.fields #[]), #[]⟩
noncomputable def o_463 (P : Params) : Obj := let _ := P; ⟨.none, none, (.func (fd (stAt 64) (Str.ofString "law") (Str.ofString "law") 0 [] .none .none .none .none none .none .none 0)), #[]⟩
noncomputable def o_464 (P : Params) : Obj := let _ := P; ⟨(.type "code"), none, (.fields #[(.str (Str.ofString "law") 902), (.str (Str.ofString "law") 903), (.str (Str.ofString "/claim/cut.py") 904), (.int (395) 0), (.int (1) 0), (.int (0) 0), (.int (0) 0), (.int (3) 0), (.ref 461), (.bool true), (.int (181) 0), (.ref 462), .none, .none, .none, (.ref 463), (.int (905) 0), (.int (395) 0), (.str (Str.ofString "/claim/cut.py") 906)]), #[]⟩
noncomputable def o_465 (P : Params) : Obj := let _ := P; ⟨(.type "function"), none, (.func (fd (stAt 64) (Str.ofString "law") (Str.ofString "law") 3 [] .none .none .none (.str (Str.ofString "law_rg0021_01") 871) none (.ref 464) .none 0)), #[]⟩
noncomputable def o_2_0 (P : Params) : Obj := let _ := P; ⟨.none, none, (.dict #[] 0), #[]⟩
noncomputable def o_3_0 (P : Params) : Obj := ⟨(.type "dict"), none, (.dict #[⟨PyData.keyHash P (Str.ofString "__name__"), (.str (Str.ofString "__name__") 165), (.str (Str.ofString "__main__") 164)⟩, ⟨PyData.keyHash P (Str.ofString "__doc__"), (.str (Str.ofString "__doc__") 166), .none⟩, ⟨PyData.keyHash P (Str.ofString "__package__"), (.str (Str.ofString "__package__") 167), .none⟩, ⟨PyData.keyHash P (Str.ofString "__loader__"), (.str (Str.ofString "__loader__") 168), (.builtin "__main__.__loader__#opaque")⟩, ⟨PyData.keyHash P (Str.ofString "__spec__"), (.str (Str.ofString "__spec__") 169), .none⟩, ⟨PyData.keyHash P (Str.ofString "__annotations__"), (.str (Str.ofString "__annotations__") 170), (.ref 6)⟩, ⟨PyData.keyHash P (Str.ofString "__builtins__"), (.str (Str.ofString "__builtins__") 171), (.ref 4)⟩, ⟨PyData.keyHash P (Str.ofString "__file__"), (.str (Str.ofString "__file__") 173), (.str (Str.ofString "/claim/cut.py") 172)⟩, ⟨PyData.keyHash P (Str.ofString "__cached__"), (.str (Str.ofString "__cached__") 174), .none⟩] 9), #[]⟩
noncomputable def o_12_0 (P : Params) : Obj := let _ := P; ⟨.none, none, (.fields #[]), #[]⟩
noncomputable def o_3_1 (P : Params) : Obj := ⟨(.type "dict"), none, (.dict #[⟨PyData.keyHash P (Str.ofString "__name__"), (.str (Str.ofString "__name__") 165), (.str (Str.ofString "adacore.scopes") 338)⟩, ⟨PyData.keyHash P (Str.ofString "__doc__"), (.str (Str.ofString "__doc__") 166), .none⟩, ⟨PyData.keyHash P (Str.ofString "__package__"), (.str (Str.ofString "__package__") 167), .none⟩, ⟨PyData.keyHash P (Str.ofString "__loader__"), (.str (Str.ofString "__loader__") 168), (.builtin "__main__.__loader__#opaque")⟩, ⟨PyData.keyHash P (Str.ofString "__spec__"), (.str (Str.ofString "__spec__") 169), .none⟩, ⟨PyData.keyHash P (Str.ofString "__annotations__"), (.str (Str.ofString "__annotations__") 170), (.ref 6)⟩, ⟨PyData.keyHash P (Str.ofString "__builtins__"), (.str (Str.ofString "__builtins__") 171), (.ref 4)⟩, ⟨PyData.keyHash P (Str.ofString "__file__"), (.str (Str.ofString "__file__") 173), (.str (Str.ofString "/claim/cut.py") 172)⟩, ⟨PyData.keyHash P (Str.ofString "__cached__"), (.str (Str.ofString "__cached__") 174), .none⟩, ⟨PyData.keyHash P (Str.ofString "AdaError"), (.str (Str.ofString "AdaError") 217), (.ref 31)⟩, ⟨PyData.keyHash P (Str.ofString "CheckFault"), (.str (Str.ofString "CheckFault") 243), (.ref 51)⟩, ⟨PyData.keyHash P (Str.ofString "Entity"), (.str (Str.ofString "Entity") 295), (.ref 70)⟩, ⟨PyData.keyHash P (Str.ofString "is_overloadable"), (.str (Str.ofString "is_overloadable") 302), (.ref 81)⟩, ⟨PyData.keyHash P (Str.ofString "homographs"), (.str (Str.ofString "homographs") 310), (.ref 88)⟩, ⟨PyData.keyHash P (Str.ofString "is_operator_sign"), (.str (Str.ofString "is_operator_sign") 317), (.ref 95)⟩, ⟨PyData.keyHash P (Str.ofString "mentions_type"), (.str (Str.ofString "mentions_type") 325), (.ref 102)⟩, ⟨PyData.keyHash P (Str.ofString "SEPARATOR"), (.str (Str.ofString "SEPARATOR") 329), (.str (Str.ofString "#") 328)⟩, ⟨PyData.keyHash P (Str.ofString "unique"), (.str (Str.ofString "unique") 337), (.ref 109)⟩, ⟨PyData.keyHash P (Str.ofString "FRAME_KINDS"), (.str (Str.ofString "FRAME_KINDS") 344), (.ref 110)⟩] 19), #[]⟩
noncomputable def o_12_1 (P : Params) : Obj := let _ := P; ⟨.none, none, (.fields #[(.int (2) 0), (.int (0) 0), (.ref 20), (.int (7) 0), (.int (0) 0), (.ref 40), (.int (13) 0), (.int (0) 0), (.ref 59), (.int (33) 0), (.int (0) 0), (.ref 80), (.int (35) 0), (.int (0) 0), (.ref 87), (.int (39) 0), (.int (0) 0), (.ref 94), (.int (41) 0), (.int (0) 0), (.ref 101), (.int (47) 0), (.int (0) 0), (.ref 108)]), #[]⟩
noncomputable def o_3_2 (P : Params) : Obj := ⟨(.type "dict"), none, (.dict #[⟨PyData.keyHash P (Str.ofString "__name__"), (.str (Str.ofString "__name__") 165), (.str (Str.ofString "adacore.scopes") 338)⟩, ⟨PyData.keyHash P (Str.ofString "__doc__"), (.str (Str.ofString "__doc__") 166), .none⟩, ⟨PyData.keyHash P (Str.ofString "__package__"), (.str (Str.ofString "__package__") 167), .none⟩, ⟨PyData.keyHash P (Str.ofString "__loader__"), (.str (Str.ofString "__loader__") 168), (.builtin "__main__.__loader__#opaque")⟩, ⟨PyData.keyHash P (Str.ofString "__spec__"), (.str (Str.ofString "__spec__") 169), .none⟩, ⟨PyData.keyHash P (Str.ofString "__annotations__"), (.str (Str.ofString "__annotations__") 170), (.ref 6)⟩, ⟨PyData.keyHash P (Str.ofString "__builtins__"), (.str (Str.ofString "__builtins__") 171), (.ref 4)⟩, ⟨PyData.keyHash P (Str.ofString "__file__"), (.str (Str.ofString "__file__") 173), (.str (Str.ofString "/claim/cut.py") 172)⟩, ⟨PyData.keyHash P (Str.ofString "__cached__"), (.str (Str.ofString "__cached__") 174), .none⟩, ⟨PyData.keyHash P (Str.ofString "AdaError"), (.str (Str.ofString "AdaError") 217), (.ref 31)⟩, ⟨PyData.keyHash P (Str.ofString "CheckFault"), (.str (Str.ofString "CheckFault") 243), (.ref 51)⟩, ⟨PyData.keyHash P (Str.ofString "Entity"), (.str (Str.ofString "Entity") 295), (.ref 70)⟩, ⟨PyData.keyHash P (Str.ofString "is_overloadable"), (.str (Str.ofString "is_overloadable") 302), (.ref 81)⟩, ⟨PyData.keyHash P (Str.ofString "homographs"), (.str (Str.ofString "homographs") 310), (.ref 88)⟩, ⟨PyData.keyHash P (Str.ofString "is_operator_sign"), (.str (Str.ofString "is_operator_sign") 317), (.ref 95)⟩, ⟨PyData.keyHash P (Str.ofString "mentions_type"), (.str (Str.ofString "mentions_type") 325), (.ref 102)⟩, ⟨PyData.keyHash P (Str.ofString "SEPARATOR"), (.str (Str.ofString "SEPARATOR") 329), (.str (Str.ofString "#") 328)⟩, ⟨PyData.keyHash P (Str.ofString "unique"), (.str (Str.ofString "unique") 337), (.ref 109)⟩, ⟨PyData.keyHash P (Str.ofString "FRAME_KINDS"), (.str (Str.ofString "FRAME_KINDS") 344), (.ref 110)⟩, ⟨PyData.keyHash P (Str.ofString "Region"), (.str (Str.ofString "Region") 389), (.ref 127)⟩, ⟨PyData.keyHash P (Str.ofString "open_region"), (.str (Str.ofString "open_region") 399), (.ref 138)⟩, ⟨PyData.keyHash P (Str.ofString "encloses"), (.str (Str.ofString "encloses") 408), (.ref 145)⟩, ⟨PyData.keyHash P (Str.ofString "frame_region"), (.str (Str.ofString "frame_region") 416), (.ref 152)⟩, ⟨PyData.keyHash P (Str.ofString "give_unique"), (.str (Str.ofString "give_unique") 426), (.ref 159)⟩, ⟨PyData.keyHash P (Str.ofString "settle_rivals"), (.str (Str.ofString "settle_rivals") 432), (.ref 164)⟩, ⟨PyData.keyHash P (Str.ofString "declare"), (.str (Str.ofString "declare") 440), (.ref 171)⟩, ⟨PyData.keyHash P (Str.ofString "make_ready"), (.str (Str.ofString "make_ready") 447), (.ref 178)⟩, ⟨PyData.keyHash P (Str.ofString "declare_ready"), (.str (Str.ofString "declare_ready") 455), (.ref 185)⟩, ⟨PyData.keyHash P (Str.ofString "note_type"), (.str (Str.ofString "note_type") 463), (.ref 192)⟩, ⟨PyData.keyHash P (Str.ofString "is_hidden"), (.str (Str.ofString "is_hidden") 472), (.ref 199)⟩, ⟨PyData.keyHash P (Str.ofString "immediate_entities"), (.str (Str.ofString "immediate_entities") 478), (.ref 204)⟩, ⟨PyData.keyHash P (Str.ofString "stays_shown"), (.str (Str.ofString "stays_shown") 484), (.ref 209)⟩, ⟨PyData.keyHash P (Str.ofString "is_offered"), (.str (Str.ofString "is_offered") 492), (.ref 216)⟩, ⟨PyData.keyHash P (Str.ofString "offered_operators"), (.str (Str.ofString "offered_operators") 498), (.ref 221)⟩, ⟨PyData.keyHash P (Str.ofString "formals_beside"), (.str (Str.ofString "formals_beside") 504), (.ref 226)⟩, ⟨PyData.keyHash P (Str.ofString "offered_entities"), (.str (Str.ofString "offered_entities") 510), (.ref 231)⟩] 36), #[]⟩
noncomputable def o_12_2 (P : Params) : Obj := let _ := P; ⟨.none, none, (.fields #[(.int (2) 0), (.int (0) 0), (.ref 20), (.int (7) 0), (.int (0) 0), (.ref 40), (.int (13) 0), (.int (0) 0), (.ref 59), (.int (33) 0), (.int (0) 0), (.ref 80), (.int (35) 0), (.int (0) 0), (.ref 87), (.int (39) 0), (.int (0) 0), (.ref 94), (.int (41) 0), (.int (0) 0), (.ref 101), (.int (47) 0), (.int (0) 0), (.ref 108), (.int (51) 0), (.int (0) 0), (.ref 116), (.int (70) 0), (.int (0) 0), (.ref 137), (.int (75) 0), (.int (0) 0), (.ref 144), (.int (82) 0), (.int (0) 0), (.ref 151), (.int (87) 0), (.int (0) 0), (.ref 158), (.int (92) 0), (.int (0) 0), (.ref 163), (.int (102) 0), (.int (0) 0), (.ref 170), (.int (113) 0), (.int (0) 0), (.ref 177), (.int (115) 0), (.int (0) 0), (.ref 184), (.int (118) 0), (.int (0) 0), (.ref 191), (.int (120) 0), (.int (0) 0), (.ref 198), (.int (125) 0), (.int (0) 0), (.ref 203), (.int (135) 0), (.int (0) 0), (.ref 208), (.int (142) 0), (.int (0) 0), (.ref 215), (.int (146) 0), (.int (0) 0), (.ref 220), (.int (152) 0), (.int (0) 0), (.ref 225), (.int (158) 0), (.int (0) 0), (.ref 230)]), #[]⟩
noncomputable def o_3_3 (P : Params) : Obj := ⟨(.type "dict"), none, (.dict #[⟨PyData.keyHash P (Str.ofString "__name__"), (.str (Str.ofString "__name__") 165), (.str (Str.ofString "adacore.meanings") 667)⟩, ⟨PyData.keyHash P (Str.ofString "__doc__"), (.str (Str.ofString "__doc__") 166), .none⟩, ⟨PyData.keyHash P (Str.ofString "__package__"), (.str (Str.ofString "__package__") 167), .none⟩, ⟨PyData.keyHash P (Str.ofString "__loader__"), (.str (Str.ofString "__loader__") 168), (.builtin "__main__.__loader__#opaque")⟩, ⟨PyData.keyHash P (Str.ofString "__spec__"), (.str (Str.ofString "__spec__") 169), .none⟩, ⟨PyData.keyHash P (Str.ofString "__annotations__"), (.str (Str.ofString "__annotations__") 170), (.ref 6)⟩, ⟨PyData.keyHash P (Str.ofString "__builtins__"), (.str (Str.ofString "__builtins__") 171), (.ref 4)⟩, ⟨PyData.keyHash P (Str.ofString "__file__"), (.str (Str.ofString "__file__") 173), (.str (Str.ofString "/claim/cut.py") 172)⟩, ⟨PyData.keyHash P (Str.ofString "__cached__"), (.str (Str.ofString "__cached__") 174), .none⟩, ⟨PyData.keyHash P (Str.ofString "AdaError"), (.str (Str.ofString "AdaError") 217), (.ref 31)⟩, ⟨PyData.keyHash P (Str.ofString "CheckFault"), (.str (Str.ofString "CheckFault") 243), (.ref 51)⟩, ⟨PyData.keyHash P (Str.ofString "Entity"), (.str (Str.ofString "Entity") 295), (.ref 70)⟩, ⟨PyData.keyHash P (Str.ofString "is_overloadable"), (.str (Str.ofString "is_overloadable") 302), (.ref 81)⟩, ⟨PyData.keyHash P (Str.ofString "homographs"), (.str (Str.ofString "homographs") 310), (.ref 88)⟩, ⟨PyData.keyHash P (Str.ofString "is_operator_sign"), (.str (Str.ofString "is_operator_sign") 317), (.ref 95)⟩, ⟨PyData.keyHash P (Str.ofString "mentions_type"), (.str (Str.ofString "mentions_type") 325), (.ref 102)⟩, ⟨PyData.keyHash P (Str.ofString "SEPARATOR"), (.str (Str.ofString "SEPARATOR") 329), (.str (Str.ofString "#") 328)⟩, ⟨PyData.keyHash P (Str.ofString "unique"), (.str (Str.ofString "unique") 337), (.ref 109)⟩, ⟨PyData.keyHash P (Str.ofString "FRAME_KINDS"), (.str (Str.ofString "FRAME_KINDS") 344), (.ref 110)⟩, ⟨PyData.keyHash P (Str.ofString "Region"), (.str (Str.ofString "Region") 389), (.ref 127)⟩, ⟨PyData.keyHash P (Str.ofString "open_region"), (.str (Str.ofString "open_region") 399), (.ref 138)⟩, ⟨PyData.keyHash P (Str.ofString "encloses"), (.str (Str.ofString "encloses") 408), (.ref 145)⟩, ⟨PyData.keyHash P (Str.ofString "frame_region"), (.str (Str.ofString "frame_region") 416), (.ref 152)⟩, ⟨PyData.keyHash P (Str.ofString "give_unique"), (.str (Str.ofString "give_unique") 426), (.ref 159)⟩, ⟨PyData.keyHash P (Str.ofString "settle_rivals"), (.str (Str.ofString "settle_rivals") 432), (.ref 164)⟩, ⟨PyData.keyHash P (Str.ofString "declare"), (.str (Str.ofString "declare") 440), (.ref 171)⟩, ⟨PyData.keyHash P (Str.ofString "make_ready"), (.str (Str.ofString "make_ready") 447), (.ref 178)⟩, ⟨PyData.keyHash P (Str.ofString "declare_ready"), (.str (Str.ofString "declare_ready") 455), (.ref 185)⟩, ⟨PyData.keyHash P (Str.ofString "note_type"), (.str (Str.ofString "note_type") 463), (.ref 192)⟩, ⟨PyData.keyHash P (Str.ofString "is_hidden"), (.str (Str.ofString "is_hidden") 472), (.ref 199)⟩, ⟨PyData.keyHash P (Str.ofString "immediate_entities"), (.str (Str.ofString "immediate_entities") 478), (.ref 204)⟩, ⟨PyData.keyHash P (Str.ofString "stays_shown"), (.str (Str.ofString "stays_shown") 484), (.ref 209)⟩, ⟨PyData.keyHash P (Str.ofString "is_offered"), (.str (Str.ofString "is_offered") 492), (.ref 216)⟩, ⟨PyData.keyHash P (Str.ofString "offered_operators"), (.str (Str.ofString "offered_operators") 498), (.ref 221)⟩, ⟨PyData.keyHash P (Str.ofString "formals_beside"), (.str (Str.ofString "formals_beside") 504), (.ref 226)⟩, ⟨PyData.keyHash P (Str.ofString "offered_entities"), (.str (Str.ofString "offered_entities") 510), (.ref 231)⟩, ⟨PyData.keyHash P (Str.ofString "look_up"), (.str (Str.ofString "look_up") 516), (.ref 236)⟩, ⟨PyData.keyHash P (Str.ofString "select_from"), (.str (Str.ofString "select_from") 522), (.ref 241)⟩, ⟨PyData.keyHash P (Str.ofString "view_of"), (.str (Str.ofString "view_of") 530), (.ref 248)⟩, ⟨PyData.keyHash P (Str.ofString "ups_to"), (.str (Str.ofString "ups_to") 538), (.ref 255)⟩, ⟨PyData.keyHash P (Str.ofString "Type"), (.str (Str.ofString "Type") 593), (.ref 272)⟩, ⟨PyData.keyHash P (Str.ofString "Subtype"), (.str (Str.ofString "Subtype") 624), (.ref 293)⟩, ⟨PyData.keyHash P (Str.ofString "int_type"), (.str (Str.ofString "int_type") 634), (.ref 304)⟩, ⟨PyData.keyHash P (Str.ofString "derived_type"), (.str (Str.ofString "derived_type") 643), (.ref 311)⟩, ⟨PyData.keyHash P (Str.ofString "numbered"), (.str (Str.ofString "numbered") 651), (.ref 318)⟩, ⟨PyData.keyHash P (Str.ofString "same_type"), (.str (Str.ofString "same_type") 659), (.ref 325)⟩, ⟨PyData.keyHash P (Str.ofString "whole_subtype"), (.str (Str.ofString "whole_subtype") 666), (.ref 332)⟩, ⟨PyData.keyHash P (Str.ofString "seen_class"), (.str (Str.ofString "seen_class") 678), (.ref 339)⟩, ⟨PyData.keyHash P (Str.ofString "seen_type"), (.str (Str.ofString "seen_type") 688), (.ref 346)⟩] 49), #[]⟩
noncomputable def o_12_3 (P : Params) : Obj := let _ := P; ⟨.none, none, (.fields #[(.int (2) 0), (.int (0) 0), (.ref 20), (.int (7) 0), (.int (0) 0), (.ref 40), (.int (13) 0), (.int (0) 0), (.ref 59), (.int (33) 0), (.int (0) 0), (.ref 80), (.int (35) 0), (.int (0) 0), (.ref 87), (.int (39) 0), (.int (0) 0), (.ref 94), (.int (41) 0), (.int (0) 0), (.ref 101), (.int (47) 0), (.int (0) 0), (.ref 108), (.int (51) 0), (.int (0) 0), (.ref 116), (.int (70) 0), (.int (0) 0), (.ref 137), (.int (75) 0), (.int (0) 0), (.ref 144), (.int (82) 0), (.int (0) 0), (.ref 151), (.int (87) 0), (.int (0) 0), (.ref 158), (.int (92) 0), (.int (0) 0), (.ref 163), (.int (102) 0), (.int (0) 0), (.ref 170), (.int (113) 0), (.int (0) 0), (.ref 177), (.int (115) 0), (.int (0) 0), (.ref 184), (.int (118) 0), (.int (0) 0), (.ref 191), (.int (120) 0), (.int (0) 0), (.ref 198), (.int (125) 0), (.int (0) 0), (.ref 203), (.int (135) 0), (.int (0) 0), (.ref 208), (.int (142) 0), (.int (0) 0), (.ref 215), (.int (146) 0), (.int (0) 0), (.ref 220), (.int (152) 0), (.int (0) 0), (.ref 225), (.int (158) 0), (.int (0) 0), (.ref 230), (.int (175) 0), (.int (0) 0), (.ref 235), (.int (181) 0), (.int (0) 0), (.ref 240), (.int (195) 0), (.int (0) 0), (.ref 247), (.int (199) 0), (.int (0) 0), (.ref 254), (.int (202) 0), (.int (0) 0), (.ref 261), (.int (229) 0), (.int (0) 0), (.ref 282), (.int (234) 0), (.int (0) 0), (.ref 303), (.int (239) 0), (.int (0) 0), (.ref 310), (.int (259) 0), (.int (0) 0), (.ref 317), (.int (262) 0), (.int (0) 0), (.ref 324), (.int (264) 0), (.int (0) 0), (.ref 331), (.int (267) 0), (.int (0) 0), (.ref 338), (.int (280) 0), (.int (0) 0), (.ref 345)]), #[]⟩
end Mine
namespace Mine
noncomputable def lf : Life := ⟨[], [], [], 0, [], [], false, #[], [], 0, false, false, false, 0, [2000, 10, 10], false, 0, true, [], [], 0, false⟩
noncomputable def envE : Env := { scope := PySem.Challenge.pw_rg0021_01.main.scope, locals := mainNs, globals := mainNs, cells := [], code := .ref 13, frame := some 14 }
noncomputable def bE : List Stmt := behindTheImports PySem.Challenge.pw_rg0021_01
noncomputable def cE : Code := .body bE envE
noncomputable def sts1 : List Stmt := [stAt 0, stAt 1, stAt 2, stAt 3, stAt 4, stAt 5, stAt 6, stAt 7, stAt 8, stAt 9, stAt 10, stAt 11, stAt 12, stAt 13]
noncomputable def sts2 : List Stmt := [stAt 14, stAt 15, stAt 16, stAt 17, stAt 18, stAt 19, stAt 20, stAt 21, stAt 22, stAt 23, stAt 24, stAt 25, stAt 26, stAt 27, stAt 28, stAt 29, stAt 30]
noncomputable def sts3 : List Stmt := [stAt 31, stAt 32, stAt 33, stAt 34, stAt 35, stAt 36, stAt 37, stAt 38, stAt 39, stAt 40, stAt 41, stAt 42, stAt 43, stAt 44, stAt 45]
noncomputable def sts4 : List Stmt := [stAt 46, stAt 47, stAt 48, stAt 49, stAt 50, stAt 51, stAt 52, stAt 53, stAt 54, stAt 55, stAt 56, stAt 57, stAt 58, stAt 59, stAt 60, stAt 61, stAt 62, stAt 63, stAt 64]
open PySem.W.Fast in
noncomputable def T0 (P : Params) : BT := (.node (PySem.W.boot_o_0 P) (.node (PySem.W.boot_o_1 P) (.node (Mine.o_3_0 P) (.node (PySem.W.boot_o_7 P) .nil .nil) (.node (Mine.o_11 P) .nil .nil)) (.node (PySem.W.boot_o_5 P) (.node (PySem.W.boot_o_9 P) .nil .nil) (.node (Mine.o_13 P) .nil .nil))) (.node (Mine.o_2_0 P) (.node (PySem.W.boot_o_4 P) (.node (PySem.W.boot_o_8 P) .nil .nil) (.node (Mine.o_12_0 P) .nil .nil)) (.node (PySem.W.boot_o_6 P) (.node (PySem.W.boot_o_10 P) .nil .nil) (.node (Mine.o_14 P) .nil .nil))))
open PySem.W.Fast in
noncomputable def T1 (P : Params) : BT := (.node (PySem.W.boot_o_0 P) (.node (PySem.W.boot_o_1 P) (.node (Mine.o_3_1 P) (.node (PySem.W.boot_o_7 P) (.node (Mine.o_15 P) (.node (Mine.o_31 P) (.node (Mine.o_63 P) .nil .nil) (.node (Mine.o_95 P) .nil .nil)) (.node (Mine.o_47 P) (.node (Mine.o_79 P) .nil .nil) .nil)) (.node (Mine.o_23 P) (.node (Mine.o_39 P) (.node (Mine.o_71 P) .nil .nil) (.node (Mine.o_103 P) .nil .nil)) (.node (Mine.o_55 P) (.node (Mine.o_87 P) .nil .nil) .nil))) (.node (Mine.o_11 P) (.node (Mine.o_19 P) (.node (Mine.o_35 P) (.node (Mine.o_67 P) .nil .nil) (.node (Mine.o_99 P) .nil .nil)) (.node (Mine.o_51 P) (.node (Mine.o_83 P) .nil .nil) .nil)) (.node (Mine.o_27 P) (.node (Mine.o_43 P) (.node (Mine.o_75 P) .nil .nil) (.node (Mine.o_107 P) .nil .nil)) (.node (Mine.o_59 P) (.node (Mine.o_91 P) .nil .nil) .nil)))) (.node (PySem.W.boot_o_5 P) (.node (PySem.W.boot_o_9 P) (.node (Mine.o_17 P) (.node (Mine.o_33 P) (.node (Mine.o_65 P) .nil .nil) (.node (Mine.o_97 P) .nil .nil)) (.node (Mine.o_49 P) (.node (Mine.o_81 P) .nil .nil) .nil)) (.node (Mine.o_25 P) (.node (Mine.o_41 P) (.node (Mine.o_73 P) .nil .nil) (.node (Mine.o_105 P) .nil .nil)) (.node (Mine.o_57 P) (.node (Mine.o_89 P) .nil .nil) .nil))) (.node (Mine.o_13 P) (.node (Mine.o_21 P) (.node (Mine.o_37 P) (.node (Mine.o_69 P) .nil .nil) (.node (Mine.o_101 P) .nil .nil)) (.node (Mine.o_53 P) (.node (Mine.o_85 P) .nil .nil) .nil)) (.node (Mine.o_29 P) (.node (Mine.o_45 P) (.node (Mine.o_77 P) .nil .nil) (.node (Mine.o_109 P) .nil .nil)) (.node (Mine.o_61 P) (.node (Mine.o_93 P) .nil .nil) .nil))))) (.node (Mine.o_2 P) (.node (PySem.W.boot_o_4 P) (.node (PySem.W.boot_o_8 P) (.node (Mine.o_16 P) (.node (Mine.o_32 P) (.node (Mine.o_64 P) .nil .nil) (.node (Mine.o_96 P) .nil .nil)) (.node (Mine.o_48 P) (.node (Mine.o_80 P) .nil .nil) .nil)) (.node (Mine.o_24 P) (.node (Mine.o_40 P) (.node (Mine.o_72 P) .nil .nil) (.node (Mine.o_104 P) .nil .nil)) (.node (Mine.o_56 P) (.node (Mine.o_88 P) .nil .nil) .nil))) (.node (Mine.o_12_1 P) (.node (Mine.o_20 P) (.node (Mine.o_36 P) (.node (Mine.o_68 P) .nil .nil) (.node (Mine.o_100 P) .nil .nil)) (.node (Mine.o_52 P) (.node (Mine.o_84 P) .nil .nil) .nil)) (.node (Mine.o_28 P) (.node (Mine.o_44 P) (.node (Mine.o_76 P) .nil .nil) (.node (Mine.o_108 P) .nil .nil)) (.node (Mine.o_60 P) (.node (Mine.o_92 P) .nil .nil) .nil)))) (.node (PySem.W.boot_o_6 P) (.node (PySem.W.boot_o_10 P) (.node (Mine.o_18 P) (.node (Mine.o_34 P) (.node (Mine.o_66 P) .nil .nil) (.node (Mine.o_98 P) .nil .nil)) (.node (Mine.o_50 P) (.node (Mine.o_82 P) .nil .nil) .nil)) (.node (Mine.o_26 P) (.node (Mine.o_42 P) (.node (Mine.o_74 P) .nil .nil) (.node (Mine.o_106 P) .nil .nil)) (.node (Mine.o_58 P) (.node (Mine.o_90 P) .nil .nil) .nil))) (.node (Mine.o_14 P) (.node (Mine.o_22 P) (.node (Mine.o_38 P) (.node (Mine.o_70 P) .nil .nil) (.node (Mine.o_102 P) .nil .nil)) (.node (Mine.o_54 P) (.node (Mine.o_86 P) .nil .nil) .nil)) (.node (Mine.o_30 P) (.node (Mine.o_46 P) (.node (Mine.o_78 P) .nil .nil) (.node (Mine.o_110 P) .nil .nil)) (.node (Mine.o_62 P) (.node (Mine.o_94 P) .nil .nil) .nil))))))
open PySem.W.Fast in
noncomputable def T2 (P : Params) : BT := (.node (PySem.W.boot_o_0 P) (.node (PySem.W.boot_o_1 P) (.node (Mine.o_3_2 P) (.node (PySem.W.boot_o_7 P) (.node (Mine.o_15 P) (.node (Mine.o_31 P) (.node (Mine.o_63 P) (.node (Mine.o_127 P) .nil .nil) (.node (Mine.o_191 P) .nil .nil)) (.node (Mine.o_95 P) (.node (Mine.o_159 P) .nil .nil) (.node (Mine.o_223 P) .nil .nil))) (.node (Mine.o_47 P) (.node (Mine.o_79 P) (.node (Mine.o_143 P) .nil .nil) (.node (Mine.o_207 P) .nil .nil)) (.node (Mine.o_111 P) (.node (Mine.o_175 P) .nil .nil) .nil))) (.node (Mine.o_23 P) (.node (Mine.o_39 P) (.node (Mine.o_71 P) (.node (Mine.o_135 P) .nil .nil) (.node (Mine.o_199 P) .nil .nil)) (.node (Mine.o_103 P) (.node (Mine.o_167 P) .nil .nil) (.node (Mine.o_231 P) .nil .nil))) (.node (Mine.o_55 P) (.node (Mine.o_87 P) (.node (Mine.o_151 P) .nil .nil) (.node (Mine.o_215 P) .nil .nil)) (.node (Mine.o_119 P) (.node (Mine.o_183 P) .nil .nil) .nil)))) (.node (Mine.o_11 P) (.node (Mine.o_19 P) (.node (Mine.o_35 P) (.node (Mine.o_67 P) (.node (Mine.o_131 P) .nil .nil) (.node (Mine.o_195 P) .nil .nil)) (.node (Mine.o_99 P) (.node (Mine.o_163 P) .nil .nil) (.node (Mine.o_227 P) .nil .nil))) (.node (Mine.o_51 P) (.node (Mine.o_83 P) (.node (Mine.o_147 P) .nil .nil) (.node (Mine.o_211 P) .nil .nil)) (.node (Mine.o_115 P) (.node (Mine.o_179 P) .nil .nil) .nil))) (.node (Mine.o_27 P) (.node (Mine.o_43 P) (.node (Mine.o_75 P) (.node (Mine.o_139 P) .nil .nil) (.node (Mine.o_203 P) .nil .nil)) (.node (Mine.o_107 P) (.node (Mine.o_171 P) .nil .nil) .nil)) (.node (Mine.o_59 P) (.node (Mine.o_91 P) (.node (Mine.o_155 P) .nil .nil) (.node (Mine.o_219 P) .nil .nil)) (.node (Mine.o_123 P) (.node (Mine.o_187 P) .nil .nil) .nil))))) (.node (PySem.W.boot_o_5 P) (.node (PySem.W.boot_o_9 P) (.node (Mine.o_17 P) (.node (Mine.o_33 P) (.node (Mine.o_65 P) (.node (Mine.o_129 P) .nil .nil) (.node (Mine.o_193 P) .nil .nil)) (.node (Mine.o_97 P) (.node (Mine.o_161 P) .nil .nil) (.node (Mine.o_225 P) .nil .nil))) (.node (Mine.o_49 P) (.node (Mine.o_81 P) (.node (Mine.o_145 P) .nil .nil) (.node (Mine.o_209 P) .nil .nil)) (.node (Mine.o_113 P) (.node (Mine.o_177 P) .nil .nil) .nil))) (.node (Mine.o_25 P) (.node (Mine.o_41 P) (.node (Mine.o_73 P) (.node (Mine.o_137 P) .nil .nil) (.node (Mine.o_201 P) .nil .nil)) (.node (Mine.o_105 P) (.node (Mine.o_169 P) .nil .nil) .nil)) (.node (Mine.o_57 P) (.node (Mine.o_89 P) (.node (Mine.o_153 P) .nil .nil) (.node (Mine.o_217 P) .nil .nil)) (.node (Mine.o_121 P) (.node (Mine.o_185 P) .nil .nil) .nil)))) (.node (Mine.o_13 P) (.node (Mine.o_21 P) (.node (Mine.o_37 P) (.node (Mine.o_69 P) (.node (Mine.o_133 P) .nil .nil) (.node (Mine.o_197 P) .nil .nil)) (.node (Mine.o_101 P) (.node (Mine.o_165 P) .nil .nil) (.node (Mine.o_229 P) .nil .nil))) (.node (Mine.o_53 P) (.node (Mine.o_85 P) (.node (Mine.o_149 P) .nil .nil) (.node (Mine.o_213 P) .nil .nil)) (.node (Mine.o_117 P) (.node (Mine.o_181 P) .nil .nil) .nil))) (.node (Mine.o_29 P) (.node (Mine.o_45 P) (.node (Mine.o_77 P) (.node (Mine.o_141 P) .nil .nil) (.node (Mine.o_205 P) .nil .nil)) (.node (Mine.o_109 P) (.node (Mine.o_173 P) .nil .nil) .nil)) (.node (Mine.o_61 P) (.node (Mine.o_93 P) (.node (Mine.o_157 P) .nil .nil) (.node (Mine.o_221 P) .nil .nil)) (.node (Mine.o_125 P) (.node (Mine.o_189 P) .nil .nil) .nil)))))) (.node (Mine.o_2 P) (.node (PySem.W.boot_o_4 P) (.node (PySem.W.boot_o_8 P) (.node (Mine.o_16 P) (.node (Mine.o_32 P) (.node (Mine.o_64 P) (.node (Mine.o_128 P) .nil .nil) (.node (Mine.o_192 P) .nil .nil)) (.node (Mine.o_96 P) (.node (Mine.o_160 P) .nil .nil) (.node (Mine.o_224 P) .nil .nil))) (.node (Mine.o_48 P) (.node (Mine.o_80 P) (.node (Mine.o_144 P) .nil .nil) (.node (Mine.o_208 P) .nil .nil)) (.node (Mine.o_112 P) (.node (Mine.o_176 P) .nil .nil) .nil))) (.node (Mine.o_24 P) (.node (Mine.o_40 P) (.node (Mine.o_72 P) (.node (Mine.o_136 P) .nil .nil) (.node (Mine.o_200 P) .nil .nil)) (.node (Mine.o_104 P) (.node (Mine.o_168 P) .nil .nil) .nil)) (.node (Mine.o_56 P) (.node (Mine.o_88 P) (.node (Mine.o_152 P) .nil .nil) (.node (Mine.o_216 P) .nil .nil)) (.node (Mine.o_120 P) (.node (Mine.o_184 P) .nil .nil) .nil)))) (.node (Mine.o_12_2 P) (.node (Mine.o_20 P) (.node (Mine.o_36 P) (.node (Mine.o_68 P) (.node (Mine.o_132 P) .nil .nil) (.node (Mine.o_196 P) .nil .nil)) (.node (Mine.o_100 P) (.node (Mine.o_164 P) .nil .nil) (.node (Mine.o_228 P) .nil .nil))) (.node (Mine.o_52 P) (.node (Mine.o_84 P) (.node (Mine.o_148 P) .nil .nil) (.node (Mine.o_212 P) .nil .nil)) (.node (Mine.o_116 P) (.node (Mine.o_180 P) .nil .nil) .nil))) (.node (Mine.o_28 P) (.node (Mine.o_44 P) (.node (Mine.o_76 P) (.node (Mine.o_140 P) .nil .nil) (.node (Mine.o_204 P) .nil .nil)) (.node (Mine.o_108 P) (.node (Mine.o_172 P) .nil .nil) .nil)) (.node (Mine.o_60 P) (.node (Mine.o_92 P) (.node (Mine.o_156 P) .nil .nil) (.node (Mine.o_220 P) .nil .nil)) (.node (Mine.o_124 P) (.node (Mine.o_188 P) .nil .nil) .nil))))) (.node (PySem.W.boot_o_6 P) (.node (PySem.W.boot_o_10 P) (.node (Mine.o_18 P) (.node (Mine.o_34 P) (.node (Mine.o_66 P) (.node (Mine.o_130 P) .nil .nil) (.node (Mine.o_194 P) .nil .nil)) (.node (Mine.o_98 P) (.node (Mine.o_162 P) .nil .nil) (.node (Mine.o_226 P) .nil .nil))) (.node (Mine.o_50 P) (.node (Mine.o_82 P) (.node (Mine.o_146 P) .nil .nil) (.node (Mine.o_210 P) .nil .nil)) (.node (Mine.o_114 P) (.node (Mine.o_178 P) .nil .nil) .nil))) (.node (Mine.o_26 P) (.node (Mine.o_42 P) (.node (Mine.o_74 P) (.node (Mine.o_138 P) .nil .nil) (.node (Mine.o_202 P) .nil .nil)) (.node (Mine.o_106 P) (.node (Mine.o_170 P) .nil .nil) .nil)) (.node (Mine.o_58 P) (.node (Mine.o_90 P) (.node (Mine.o_154 P) .nil .nil) (.node (Mine.o_218 P) .nil .nil)) (.node (Mine.o_122 P) (.node (Mine.o_186 P) .nil .nil) .nil)))) (.node (Mine.o_14 P) (.node (Mine.o_22 P) (.node (Mine.o_38 P) (.node (Mine.o_70 P) (.node (Mine.o_134 P) .nil .nil) (.node (Mine.o_198 P) .nil .nil)) (.node (Mine.o_102 P) (.node (Mine.o_166 P) .nil .nil) (.node (Mine.o_230 P) .nil .nil))) (.node (Mine.o_54 P) (.node (Mine.o_86 P) (.node (Mine.o_150 P) .nil .nil) (.node (Mine.o_214 P) .nil .nil)) (.node (Mine.o_118 P) (.node (Mine.o_182 P) .nil .nil) .nil))) (.node (Mine.o_30 P) (.node (Mine.o_46 P) (.node (Mine.o_78 P) (.node (Mine.o_142 P) .nil .nil) (.node (Mine.o_206 P) .nil .nil)) (.node (Mine.o_110 P) (.node (Mine.o_174 P) .nil .nil) .nil)) (.node (Mine.o_62 P) (.node (Mine.o_94 P) (.node (Mine.o_158 P) .nil .nil) (.node (Mine.o_222 P) .nil .nil)) (.node (Mine.o_126 P) (.node (Mine.o_190 P) .nil .nil) .nil)))))))
open PySem.W.Fast in
noncomputable def T3 (P : Params) : BT := (.node (PySem.W.boot_o_0 P) (.node (PySem.W.boot_o_1 P) (.node (Mine.o_3_3 P) (.node (PySem.W.boot_o_7 P) (.node (Mine.o_15 P) (.node (Mine.o_31 P) (.node (Mine.o_63 P) (.node (Mine.o_127 P) (.node (Mine.o_255 P) .nil .nil) .nil) (.node (Mine.o_191 P) (.node (Mine.o_319 P) .nil .nil) .nil)) (.node (Mine.o_95 P) (.node (Mine.o_159 P) (.node (Mine.o_287 P) .nil .nil) .nil) (.node (Mine.o_223 P) .nil .nil))) (.node (Mine.o_47 P) (.node (Mine.o_79 P) (.node (Mine.o_143 P) (.node (Mine.o_271 P) .nil .nil) .nil) (.node (Mine.o_207 P) (.node (Mine.o_335 P) .nil .nil) .nil)) (.node (Mine.o_111 P) (.node (Mine.o_175 P) (.node (Mine.o_303 P) .nil .nil) .nil) (.node (Mine.o_239 P) .nil .nil)))) (.node (Mine.o_23 P) (.node (Mine.o_39 P) (.node (Mine.o_71 P) (.node (Mine.o_135 P) (.node (Mine.o_263 P) .nil .nil) .nil) (.node (Mine.o_199 P) (.node (Mine.o_327 P) .nil .nil) .nil)) (.node (Mine.o_103 P) (.node (Mine.o_167 P) (.node (Mine.o_295 P) .nil .nil) .nil) (.node (Mine.o_231 P) .nil .nil))) (.node (Mine.o_55 P) (.node (Mine.o_87 P) (.node (Mine.o_151 P) (.node (Mine.o_279 P) .nil .nil) .nil) (.node (Mine.o_215 P) (.node (Mine.o_343 P) .nil .nil) .nil)) (.node (Mine.o_119 P) (.node (Mine.o_183 P) (.node (Mine.o_311 P) .nil .nil) .nil) (.node (Mine.o_247 P) .nil .nil))))) (.node (Mine.o_11 P) (.node (Mine.o_19 P) (.node (Mine.o_35 P) (.node (Mine.o_67 P) (.node (Mine.o_131 P) (.node (Mine.o_259 P) .nil .nil) .nil) (.node (Mine.o_195 P) (.node (Mine.o_323 P) .nil .nil) .nil)) (.node (Mine.o_99 P) (.node (Mine.o_163 P) (.node (Mine.o_291 P) .nil .nil) .nil) (.node (Mine.o_227 P) .nil .nil))) (.node (Mine.o_51 P) (.node (Mine.o_83 P) (.node (Mine.o_147 P) (.node (Mine.o_275 P) .nil .nil) .nil) (.node (Mine.o_211 P) (.node (Mine.o_339 P) .nil .nil) .nil)) (.node (Mine.o_115 P) (.node (Mine.o_179 P) (.node (Mine.o_307 P) .nil .nil) .nil) (.node (Mine.o_243 P) .nil .nil)))) (.node (Mine.o_27 P) (.node (Mine.o_43 P) (.node (Mine.o_75 P) (.node (Mine.o_139 P) (.node (Mine.o_267 P) .nil .nil) .nil) (.node (Mine.o_203 P) (.node (Mine.o_331 P) .nil .nil) .nil)) (.node (Mine.o_107 P) (.node (Mine.o_171 P) (.node (Mine.o_299 P) .nil .nil) .nil) (.node (Mine.o_235 P) .nil .nil))) (.node (Mine.o_59 P) (.node (Mine.o_91 P) (.node (Mine.o_155 P) (.node (Mine.o_283 P) .nil .nil) .nil) (.node (Mine.o_219 P) .nil .nil)) (.node (Mine.o_123 P) (.node (Mine.o_187 P) (.node (Mine.o_315 P) .nil .nil) .nil) (.node (Mine.o_251 P) .nil .nil)))))) (.node (PySem.W.boot_o_5 P) (.node (PySem.W.boot_o_9 P) (.node (Mine.o_17 P) (.node (Mine.o_33 P) (.node (Mine.o_65 P) (.node (Mine.o_129 P) (.node (Mine.o_257 P) .nil .nil) .nil) (.node (Mine.o_193 P) (.node (Mine.o_321 P) .nil .nil) .nil)) (.node (Mine.o_97 P) (.node (Mine.o_161 P) (.node (Mine.o_289 P) .nil .nil) .nil) (.node (Mine.o_225 P) .nil .nil))) (.node (Mine.o_49 P) (.node (Mine.o_81 P) (.node (Mine.o_145 P) (.node (Mine.o_273 P) .nil .nil) .nil) (.node (Mine.o_209 P) (.node (Mine.o_337 P) .nil .nil) .nil)) (.node (Mine.o_113 P) (.node (Mine.o_177 P) (.node (Mine.o_305 P) .nil .nil) .nil) (.node (Mine.o_241 P) .nil .nil)))) (.node (Mine.o_25 P) (.node (Mine.o_41 P) (.node (Mine.o_73 P) (.node (Mine.o_137 P) (.node (Mine.o_265 P) .nil .nil) .nil) (.node (Mine.o_201 P) (.node (Mine.o_329 P) .nil .nil) .nil)) (.node (Mine.o_105 P) (.node (Mine.o_169 P) (.node (Mine.o_297 P) .nil .nil) .nil) (.node (Mine.o_233 P) .nil .nil))) (.node (Mine.o_57 P) (.node (Mine.o_89 P) (.node (Mine.o_153 P) (.node (Mine.o_281 P) .nil .nil) .nil) (.node (Mine.o_217 P) (.node (Mine.o_345 P) .nil .nil) .nil)) (.node (Mine.o_121 P) (.node (Mine.o_185 P) (.node (Mine.o_313 P) .nil .nil) .nil) (.node (Mine.o_249 P) .nil .nil))))) (.node (Mine.o_13 P) (.node (Mine.o_21 P) (.node (Mine.o_37 P) (.node (Mine.o_69 P) (.node (Mine.o_133 P) (.node (Mine.o_261 P) .nil .nil) .nil) (.node (Mine.o_197 P) (.node (Mine.o_325 P) .nil .nil) .nil)) (.node (Mine.o_101 P) (.node (Mine.o_165 P) (.node (Mine.o_293 P) .nil .nil) .nil) (.node (Mine.o_229 P) .nil .nil))) (.node (Mine.o_53 P) (.node (Mine.o_85 P) (.node (Mine.o_149 P) (.node (Mine.o_277 P) .nil .nil) .nil) (.node (Mine.o_213 P) (.node (Mine.o_341 P) .nil .nil) .nil)) (.node (Mine.o_117 P) (.node (Mine.o_181 P) (.node (Mine.o_309 P) .nil .nil) .nil) (.node (Mine.o_245 P) .nil .nil)))) (.node (Mine.o_29 P) (.node (Mine.o_45 P) (.node (Mine.o_77 P) (.node (Mine.o_141 P) (.node (Mine.o_269 P) .nil .nil) .nil) (.node (Mine.o_205 P) (.node (Mine.o_333 P) .nil .nil) .nil)) (.node (Mine.o_109 P) (.node (Mine.o_173 P) (.node (Mine.o_301 P) .nil .nil) .nil) (.node (Mine.o_237 P) .nil .nil))) (.node (Mine.o_61 P) (.node (Mine.o_93 P) (.node (Mine.o_157 P) (.node (Mine.o_285 P) .nil .nil) .nil) (.node (Mine.o_221 P) .nil .nil)) (.node (Mine.o_125 P) (.node (Mine.o_189 P) (.node (Mine.o_317 P) .nil .nil) .nil) (.node (Mine.o_253 P) .nil .nil))))))) (.node (Mine.o_2 P) (.node (PySem.W.boot_o_4 P) (.node (PySem.W.boot_o_8 P) (.node (Mine.o_16 P) (.node (Mine.o_32 P) (.node (Mine.o_64 P) (.node (Mine.o_128 P) (.node (Mine.o_256 P) .nil .nil) .nil) (.node (Mine.o_192 P) (.node (Mine.o_320 P) .nil .nil) .nil)) (.node (Mine.o_96 P) (.node (Mine.o_160 P) (.node (Mine.o_288 P) .nil .nil) .nil) (.node (Mine.o_224 P) .nil .nil))) (.node (Mine.o_48 P) (.node (Mine.o_80 P) (.node (Mine.o_144 P) (.node (Mine.o_272 P) .nil .nil) .nil) (.node (Mine.o_208 P) (.node (Mine.o_336 P) .nil .nil) .nil)) (.node (Mine.o_112 P) (.node (Mine.o_176 P) (.node (Mine.o_304 P) .nil .nil) .nil) (.node (Mine.o_240 P) .nil .nil)))) (.node (Mine.o_24 P) (.node (Mine.o_40 P) (.node (Mine.o_72 P) (.node (Mine.o_136 P) (.node (Mine.o_264 P) .nil .nil) .nil) (.node (Mine.o_200 P) (.node (Mine.o_328 P) .nil .nil) .nil)) (.node (Mine.o_104 P) (.node (Mine.o_168 P) (.node (Mine.o_296 P) .nil .nil) .nil) (.node (Mine.o_232 P) .nil .nil))) (.node (Mine.o_56 P) (.node (Mine.o_88 P) (.node (Mine.o_152 P) (.node (Mine.o_280 P) .nil .nil) .nil) (.node (Mine.o_216 P) (.node (Mine.o_344 P) .nil .nil) .nil)) (.node (Mine.o_120 P) (.node (Mine.o_184 P) (.node (Mine.o_312 P) .nil .nil) .nil) (.node (Mine.o_248 P) .nil .nil))))) (.node (Mine.o_12_3 P) (.node (Mine.o_20 P) (.node (Mine.o_36 P) (.node (Mine.o_68 P) (.node (Mine.o_132 P) (.node (Mine.o_260 P) .nil .nil) .nil) (.node (Mine.o_196 P) (.node (Mine.o_324 P) .nil .nil) .nil)) (.node (Mine.o_100 P) (.node (Mine.o_164 P) (.node (Mine.o_292 P) .nil .nil) .nil) (.node (Mine.o_228 P) .nil .nil))) (.node (Mine.o_52 P) (.node (Mine.o_84 P) (.node (Mine.o_148 P) (.node (Mine.o_276 P) .nil .nil) .nil) (.node (Mine.o_212 P) (.node (Mine.o_340 P) .nil .nil) .nil)) (.node (Mine.o_116 P) (.node (Mine.o_180 P) (.node (Mine.o_308 P) .nil .nil) .nil) (.node (Mine.o_244 P) .nil .nil)))) (.node (Mine.o_28 P) (.node (Mine.o_44 P) (.node (Mine.o_76 P) (.node (Mine.o_140 P) (.node (Mine.o_268 P) .nil .nil) .nil) (.node (Mine.o_204 P) (.node (Mine.o_332 P) .nil .nil) .nil)) (.node (Mine.o_108 P) (.node (Mine.o_172 P) (.node (Mine.o_300 P) .nil .nil) .nil) (.node (Mine.o_236 P) .nil .nil))) (.node (Mine.o_60 P) (.node (Mine.o_92 P) (.node (Mine.o_156 P) (.node (Mine.o_284 P) .nil .nil) .nil) (.node (Mine.o_220 P) .nil .nil)) (.node (Mine.o_124 P) (.node (Mine.o_188 P) (.node (Mine.o_316 P) .nil .nil) .nil) (.node (Mine.o_252 P) .nil .nil)))))) (.node (PySem.W.boot_o_6 P) (.node (PySem.W.boot_o_10 P) (.node (Mine.o_18 P) (.node (Mine.o_34 P) (.node (Mine.o_66 P) (.node (Mine.o_130 P) (.node (Mine.o_258 P) .nil .nil) .nil) (.node (Mine.o_194 P) (.node (Mine.o_322 P) .nil .nil) .nil)) (.node (Mine.o_98 P) (.node (Mine.o_162 P) (.node (Mine.o_290 P) .nil .nil) .nil) (.node (Mine.o_226 P) .nil .nil))) (.node (Mine.o_50 P) (.node (Mine.o_82 P) (.node (Mine.o_146 P) (.node (Mine.o_274 P) .nil .nil) .nil) (.node (Mine.o_210 P) (.node (Mine.o_338 P) .nil .nil) .nil)) (.node (Mine.o_114 P) (.node (Mine.o_178 P) (.node (Mine.o_306 P) .nil .nil) .nil) (.node (Mine.o_242 P) .nil .nil)))) (.node (Mine.o_26 P) (.node (Mine.o_42 P) (.node (Mine.o_74 P) (.node (Mine.o_138 P) (.node (Mine.o_266 P) .nil .nil) .nil) (.node (Mine.o_202 P) (.node (Mine.o_330 P) .nil .nil) .nil)) (.node (Mine.o_106 P) (.node (Mine.o_170 P) (.node (Mine.o_298 P) .nil .nil) .nil) (.node (Mine.o_234 P) .nil .nil))) (.node (Mine.o_58 P) (.node (Mine.o_90 P) (.node (Mine.o_154 P) (.node (Mine.o_282 P) .nil .nil) .nil) (.node (Mine.o_218 P) (.node (Mine.o_346 P) .nil .nil) .nil)) (.node (Mine.o_122 P) (.node (Mine.o_186 P) (.node (Mine.o_314 P) .nil .nil) .nil) (.node (Mine.o_250 P) .nil .nil))))) (.node (Mine.o_14 P) (.node (Mine.o_22 P) (.node (Mine.o_38 P) (.node (Mine.o_70 P) (.node (Mine.o_134 P) (.node (Mine.o_262 P) .nil .nil) .nil) (.node (Mine.o_198 P) (.node (Mine.o_326 P) .nil .nil) .nil)) (.node (Mine.o_102 P) (.node (Mine.o_166 P) (.node (Mine.o_294 P) .nil .nil) .nil) (.node (Mine.o_230 P) .nil .nil))) (.node (Mine.o_54 P) (.node (Mine.o_86 P) (.node (Mine.o_150 P) (.node (Mine.o_278 P) .nil .nil) .nil) (.node (Mine.o_214 P) (.node (Mine.o_342 P) .nil .nil) .nil)) (.node (Mine.o_118 P) (.node (Mine.o_182 P) (.node (Mine.o_310 P) .nil .nil) .nil) (.node (Mine.o_246 P) .nil .nil)))) (.node (Mine.o_30 P) (.node (Mine.o_46 P) (.node (Mine.o_78 P) (.node (Mine.o_142 P) (.node (Mine.o_270 P) .nil .nil) .nil) (.node (Mine.o_206 P) (.node (Mine.o_334 P) .nil .nil) .nil)) (.node (Mine.o_110 P) (.node (Mine.o_174 P) (.node (Mine.o_302 P) .nil .nil) .nil) (.node (Mine.o_238 P) .nil .nil))) (.node (Mine.o_62 P) (.node (Mine.o_94 P) (.node (Mine.o_158 P) (.node (Mine.o_286 P) .nil .nil) .nil) (.node (Mine.o_222 P) .nil .nil)) (.node (Mine.o_126 P) (.node (Mine.o_190 P) (.node (Mine.o_318 P) .nil .nil) .nil) (.node (Mine.o_254 P) .nil .nil))))))))
open PySem.W.Fast in
noncomputable def T4 (P : Params) : BT := (.node (PySem.W.boot_o_0 P) (.node (PySem.W.boot_o_1 P) (.node (Mine.o_3 P) (.node (PySem.W.boot_o_7 P) (.node (Mine.o_15 P) (.node (Mine.o_31 P) (.node (Mine.o_63 P) (.node (Mine.o_127 P) (.node (Mine.o_255 P) .nil .nil) (.node (Mine.o_383 P) .nil .nil)) (.node (Mine.o_191 P) (.node (Mine.o_319 P) .nil .nil) (.node (Mine.o_447 P) .nil .nil))) (.node (Mine.o_95 P) (.node (Mine.o_159 P) (.node (Mine.o_287 P) .nil .nil) (.node (Mine.o_415 P) .nil .nil)) (.node (Mine.o_223 P) (.node (Mine.o_351 P) .nil .nil) .nil))) (.node (Mine.o_47 P) (.node (Mine.o_79 P) (.node (Mine.o_143 P) (.node (Mine.o_271 P) .nil .nil) (.node (Mine.o_399 P) .nil .nil)) (.node (Mine.o_207 P) (.node (Mine.o_335 P) .nil .nil) (.node (Mine.o_463 P) .nil .nil))) (.node (Mine.o_111 P) (.node (Mine.o_175 P) (.node (Mine.o_303 P) .nil .nil) (.node (Mine.o_431 P) .nil .nil)) (.node (Mine.o_239 P) (.node (Mine.o_367 P) .nil .nil) .nil)))) (.node (Mine.o_23 P) (.node (Mine.o_39 P) (.node (Mine.o_71 P) (.node (Mine.o_135 P) (.node (Mine.o_263 P) .nil .nil) (.node (Mine.o_391 P) .nil .nil)) (.node (Mine.o_199 P) (.node (Mine.o_327 P) .nil .nil) (.node (Mine.o_455 P) .nil .nil))) (.node (Mine.o_103 P) (.node (Mine.o_167 P) (.node (Mine.o_295 P) .nil .nil) (.node (Mine.o_423 P) .nil .nil)) (.node (Mine.o_231 P) (.node (Mine.o_359 P) .nil .nil) .nil))) (.node (Mine.o_55 P) (.node (Mine.o_87 P) (.node (Mine.o_151 P) (.node (Mine.o_279 P) .nil .nil) (.node (Mine.o_407 P) .nil .nil)) (.node (Mine.o_215 P) (.node (Mine.o_343 P) .nil .nil) .nil)) (.node (Mine.o_119 P) (.node (Mine.o_183 P) (.node (Mine.o_311 P) .nil .nil) (.node (Mine.o_439 P) .nil .nil)) (.node (Mine.o_247 P) (.node (Mine.o_375 P) .nil .nil) .nil))))) (.node (Mine.o_11 P) (.node (Mine.o_19 P) (.node (Mine.o_35 P) (.node (Mine.o_67 P) (.node (Mine.o_131 P) (.node (Mine.o_259 P) .nil .nil) (.node (Mine.o_387 P) .nil .nil)) (.node (Mine.o_195 P) (.node (Mine.o_323 P) .nil .nil) (.node (Mine.o_451 P) .nil .nil))) (.node (Mine.o_99 P) (.node (Mine.o_163 P) (.node (Mine.o_291 P) .nil .nil) (.node (Mine.o_419 P) .nil .nil)) (.node (Mine.o_227 P) (.node (Mine.o_355 P) .nil .nil) .nil))) (.node (Mine.o_51 P) (.node (Mine.o_83 P) (.node (Mine.o_147 P) (.node (Mine.o_275 P) .nil .nil) (.node (Mine.o_403 P) .nil .nil)) (.node (Mine.o_211 P) (.node (Mine.o_339 P) .nil .nil) .nil)) (.node (Mine.o_115 P) (.node (Mine.o_179 P) (.node (Mine.o_307 P) .nil .nil) (.node (Mine.o_435 P) .nil .nil)) (.node (Mine.o_243 P) (.node (Mine.o_371 P) .nil .nil) .nil)))) (.node (Mine.o_27 P) (.node (Mine.o_43 P) (.node (Mine.o_75 P) (.node (Mine.o_139 P) (.node (Mine.o_267 P) .nil .nil) (.node (Mine.o_395 P) .nil .nil)) (.node (Mine.o_203 P) (.node (Mine.o_331 P) .nil .nil) (.node (Mine.o_459 P) .nil .nil))) (.node (Mine.o_107 P) (.node (Mine.o_171 P) (.node (Mine.o_299 P) .nil .nil) (.node (Mine.o_427 P) .nil .nil)) (.node (Mine.o_235 P) (.node (Mine.o_363 P) .nil .nil) .nil))) (.node (Mine.o_59 P) (.node (Mine.o_91 P) (.node (Mine.o_155 P) (.node (Mine.o_283 P) .nil .nil) (.node (Mine.o_411 P) .nil .nil)) (.node (Mine.o_219 P) (.node (Mine.o_347 P) .nil .nil) .nil)) (.node (Mine.o_123 P) (.node (Mine.o_187 P) (.node (Mine.o_315 P) .nil .nil) (.node (Mine.o_443 P) .nil .nil)) (.node (Mine.o_251 P) (.node (Mine.o_379 P) .nil .nil) .nil)))))) (.node (PySem.W.boot_o_5 P) (.node (PySem.W.boot_o_9 P) (.node (Mine.o_17 P) (.node (Mine.o_33 P) (.node (Mine.o_65 P) (.node (Mine.o_129 P) (.node (Mine.o_257 P) .nil .nil) (.node (Mine.o_385 P) .nil .nil)) (.node (Mine.o_193 P) (.node (Mine.o_321 P) .nil .nil) (.node (Mine.o_449 P) .nil .nil))) (.node (Mine.o_97 P) (.node (Mine.o_161 P) (.node (Mine.o_289 P) .nil .nil) (.node (Mine.o_417 P) .nil .nil)) (.node (Mine.o_225 P) (.node (Mine.o_353 P) .nil .nil) .nil))) (.node (Mine.o_49 P) (.node (Mine.o_81 P) (.node (Mine.o_145 P) (.node (Mine.o_273 P) .nil .nil) (.node (Mine.o_401 P) .nil .nil)) (.node (Mine.o_209 P) (.node (Mine.o_337 P) .nil .nil) (.node (Mine.o_465 P) .nil .nil))) (.node (Mine.o_113 P) (.node (Mine.o_177 P) (.node (Mine.o_305 P) .nil .nil) (.node (Mine.o_433 P) .nil .nil)) (.node (Mine.o_241 P) (.node (Mine.o_369 P) .nil .nil) .nil)))) (.node (Mine.o_25 P) (.node (Mine.o_41 P) (.node (Mine.o_73 P) (.node (Mine.o_137 P) (.node (Mine.o_265 P) .nil .nil) (.node (Mine.o_393 P) .nil .nil)) (.node (Mine.o_201 P) (.node (Mine.o_329 P) .nil .nil) (.node (Mine.o_457 P) .nil .nil))) (.node (Mine.o_105 P) (.node (Mine.o_169 P) (.node (Mine.o_297 P) .nil .nil) (.node (Mine.o_425 P) .nil .nil)) (.node (Mine.o_233 P) (.node (Mine.o_361 P) .nil .nil) .nil))) (.node (Mine.o_57 P) (.node (Mine.o_89 P) (.node (Mine.o_153 P) (.node (Mine.o_281 P) .nil .nil) (.node (Mine.o_409 P) .nil .nil)) (.node (Mine.o_217 P) (.node (Mine.o_345 P) .nil .nil) .nil)) (.node (Mine.o_121 P) (.node (Mine.o_185 P) (.node (Mine.o_313 P) .nil .nil) (.node (Mine.o_441 P) .nil .nil)) (.node (Mine.o_249 P) (.node (Mine.o_377 P) .nil .nil) .nil))))) (.node (Mine.o_13 P) (.node (Mine.o_21 P) (.node (Mine.o_37 P) (.node (Mine.o_69 P) (.node (Mine.o_133 P) (.node (Mine.o_261 P) .nil .nil) (.node (Mine.o_389 P) .nil .nil)) (.node (Mine.o_197 P) (.node (Mine.o_325 P) .nil .nil) (.node (Mine.o_453 P) .nil .nil))) (.node (Mine.o_101 P) (.node (Mine.o_165 P) (.node (Mine.o_293 P) .nil .nil) (.node (Mine.o_421 P) .nil .nil)) (.node (Mine.o_229 P) (.node (Mine.o_357 P) .nil .nil) .nil))) (.node (Mine.o_53 P) (.node (Mine.o_85 P) (.node (Mine.o_149 P) (.node (Mine.o_277 P) .nil .nil) (.node (Mine.o_405 P) .nil .nil)) (.node (Mine.o_213 P) (.node (Mine.o_341 P) .nil .nil) .nil)) (.node (Mine.o_117 P) (.node (Mine.o_181 P) (.node (Mine.o_309 P) .nil .nil) (.node (Mine.o_437 P) .nil .nil)) (.node (Mine.o_245 P) (.node (Mine.o_373 P) .nil .nil) .nil)))) (.node (Mine.o_29 P) (.node (Mine.o_45 P) (.node (Mine.o_77 P) (.node (Mine.o_141 P) (.node (Mine.o_269 P) .nil .nil) (.node (Mine.o_397 P) .nil .nil)) (.node (Mine.o_205 P) (.node (Mine.o_333 P) .nil .nil) (.node (Mine.o_461 P) .nil .nil))) (.node (Mine.o_109 P) (.node (Mine.o_173 P) (.node (Mine.o_301 P) .nil .nil) (.node (Mine.o_429 P) .nil .nil)) (.node (Mine.o_237 P) (.node (Mine.o_365 P) .nil .nil) .nil))) (.node (Mine.o_61 P) (.node (Mine.o_93 P) (.node (Mine.o_157 P) (.node (Mine.o_285 P) .nil .nil) (.node (Mine.o_413 P) .nil .nil)) (.node (Mine.o_221 P) (.node (Mine.o_349 P) .nil .nil) .nil)) (.node (Mine.o_125 P) (.node (Mine.o_189 P) (.node (Mine.o_317 P) .nil .nil) (.node (Mine.o_445 P) .nil .nil)) (.node (Mine.o_253 P) (.node (Mine.o_381 P) .nil .nil) .nil))))))) (.node (Mine.o_2 P) (.node (PySem.W.boot_o_4 P) (.node (PySem.W.boot_o_8 P) (.node (Mine.o_16 P) (.node (Mine.o_32 P) (.node (Mine.o_64 P) (.node (Mine.o_128 P) (.node (Mine.o_256 P) .nil .nil) (.node (Mine.o_384 P) .nil .nil)) (.node (Mine.o_192 P) (.node (Mine.o_320 P) .nil .nil) (.node (Mine.o_448 P) .nil .nil))) (.node (Mine.o_96 P) (.node (Mine.o_160 P) (.node (Mine.o_288 P) .nil .nil) (.node (Mine.o_416 P) .nil .nil)) (.node (Mine.o_224 P) (.node (Mine.o_352 P) .nil .nil) .nil))) (.node (Mine.o_48 P) (.node (Mine.o_80 P) (.node (Mine.o_144 P) (.node (Mine.o_272 P) .nil .nil) (.node (Mine.o_400 P) .nil .nil)) (.node (Mine.o_208 P) (.node (Mine.o_336 P) .nil .nil) (.node (Mine.o_464 P) .nil .nil))) (.node (Mine.o_112 P) (.node (Mine.o_176 P) (.node (Mine.o_304 P) .nil .nil) (.node (Mine.o_432 P) .nil .nil)) (.node (Mine.o_240 P) (.node (Mine.o_368 P) .nil .nil) .nil)))) (.node (Mine.o_24 P) (.node (Mine.o_40 P) (.node (Mine.o_72 P) (.node (Mine.o_136 P) (.node (Mine.o_264 P) .nil .nil) (.node (Mine.o_392 P) .nil .nil)) (.node (Mine.o_200 P) (.node (Mine.o_328 P) .nil .nil) (.node (Mine.o_456 P) .nil .nil))) (.node (Mine.o_104 P) (.node (Mine.o_168 P) (.node (Mine.o_296 P) .nil .nil) (.node (Mine.o_424 P) .nil .nil)) (.node (Mine.o_232 P) (.node (Mine.o_360 P) .nil .nil) .nil))) (.node (Mine.o_56 P) (.node (Mine.o_88 P) (.node (Mine.o_152 P) (.node (Mine.o_280 P) .nil .nil) (.node (Mine.o_408 P) .nil .nil)) (.node (Mine.o_216 P) (.node (Mine.o_344 P) .nil .nil) .nil)) (.node (Mine.o_120 P) (.node (Mine.o_184 P) (.node (Mine.o_312 P) .nil .nil) (.node (Mine.o_440 P) .nil .nil)) (.node (Mine.o_248 P) (.node (Mine.o_376 P) .nil .nil) .nil))))) (.node (Mine.o_12 P) (.node (Mine.o_20 P) (.node (Mine.o_36 P) (.node (Mine.o_68 P) (.node (Mine.o_132 P) (.node (Mine.o_260 P) .nil .nil) (.node (Mine.o_388 P) .nil .nil)) (.node (Mine.o_196 P) (.node (Mine.o_324 P) .nil .nil) (.node (Mine.o_452 P) .nil .nil))) (.node (Mine.o_100 P) (.node (Mine.o_164 P) (.node (Mine.o_292 P) .nil .nil) (.node (Mine.o_420 P) .nil .nil)) (.node (Mine.o_228 P) (.node (Mine.o_356 P) .nil .nil) .nil))) (.node (Mine.o_52 P) (.node (Mine.o_84 P) (.node (Mine.o_148 P) (.node (Mine.o_276 P) .nil .nil) (.node (Mine.o_404 P) .nil .nil)) (.node (Mine.o_212 P) (.node (Mine.o_340 P) .nil .nil) .nil)) (.node (Mine.o_116 P) (.node (Mine.o_180 P) (.node (Mine.o_308 P) .nil .nil) (.node (Mine.o_436 P) .nil .nil)) (.node (Mine.o_244 P) (.node (Mine.o_372 P) .nil .nil) .nil)))) (.node (Mine.o_28 P) (.node (Mine.o_44 P) (.node (Mine.o_76 P) (.node (Mine.o_140 P) (.node (Mine.o_268 P) .nil .nil) (.node (Mine.o_396 P) .nil .nil)) (.node (Mine.o_204 P) (.node (Mine.o_332 P) .nil .nil) (.node (Mine.o_460 P) .nil .nil))) (.node (Mine.o_108 P) (.node (Mine.o_172 P) (.node (Mine.o_300 P) .nil .nil) (.node (Mine.o_428 P) .nil .nil)) (.node (Mine.o_236 P) (.node (Mine.o_364 P) .nil .nil) .nil))) (.node (Mine.o_60 P) (.node (Mine.o_92 P) (.node (Mine.o_156 P) (.node (Mine.o_284 P) .nil .nil) (.node (Mine.o_412 P) .nil .nil)) (.node (Mine.o_220 P) (.node (Mine.o_348 P) .nil .nil) .nil)) (.node (Mine.o_124 P) (.node (Mine.o_188 P) (.node (Mine.o_316 P) .nil .nil) (.node (Mine.o_444 P) .nil .nil)) (.node (Mine.o_252 P) (.node (Mine.o_380 P) .nil .nil) .nil)))))) (.node (PySem.W.boot_o_6 P) (.node (PySem.W.boot_o_10 P) (.node (Mine.o_18 P) (.node (Mine.o_34 P) (.node (Mine.o_66 P) (.node (Mine.o_130 P) (.node (Mine.o_258 P) .nil .nil) (.node (Mine.o_386 P) .nil .nil)) (.node (Mine.o_194 P) (.node (Mine.o_322 P) .nil .nil) (.node (Mine.o_450 P) .nil .nil))) (.node (Mine.o_98 P) (.node (Mine.o_162 P) (.node (Mine.o_290 P) .nil .nil) (.node (Mine.o_418 P) .nil .nil)) (.node (Mine.o_226 P) (.node (Mine.o_354 P) .nil .nil) .nil))) (.node (Mine.o_50 P) (.node (Mine.o_82 P) (.node (Mine.o_146 P) (.node (Mine.o_274 P) .nil .nil) (.node (Mine.o_402 P) .nil .nil)) (.node (Mine.o_210 P) (.node (Mine.o_338 P) .nil .nil) .nil)) (.node (Mine.o_114 P) (.node (Mine.o_178 P) (.node (Mine.o_306 P) .nil .nil) (.node (Mine.o_434 P) .nil .nil)) (.node (Mine.o_242 P) (.node (Mine.o_370 P) .nil .nil) .nil)))) (.node (Mine.o_26 P) (.node (Mine.o_42 P) (.node (Mine.o_74 P) (.node (Mine.o_138 P) (.node (Mine.o_266 P) .nil .nil) (.node (Mine.o_394 P) .nil .nil)) (.node (Mine.o_202 P) (.node (Mine.o_330 P) .nil .nil) (.node (Mine.o_458 P) .nil .nil))) (.node (Mine.o_106 P) (.node (Mine.o_170 P) (.node (Mine.o_298 P) .nil .nil) (.node (Mine.o_426 P) .nil .nil)) (.node (Mine.o_234 P) (.node (Mine.o_362 P) .nil .nil) .nil))) (.node (Mine.o_58 P) (.node (Mine.o_90 P) (.node (Mine.o_154 P) (.node (Mine.o_282 P) .nil .nil) (.node (Mine.o_410 P) .nil .nil)) (.node (Mine.o_218 P) (.node (Mine.o_346 P) .nil .nil) .nil)) (.node (Mine.o_122 P) (.node (Mine.o_186 P) (.node (Mine.o_314 P) .nil .nil) (.node (Mine.o_442 P) .nil .nil)) (.node (Mine.o_250 P) (.node (Mine.o_378 P) .nil .nil) .nil))))) (.node (Mine.o_14 P) (.node (Mine.o_22 P) (.node (Mine.o_38 P) (.node (Mine.o_70 P) (.node (Mine.o_134 P) (.node (Mine.o_262 P) .nil .nil) (.node (Mine.o_390 P) .nil .nil)) (.node (Mine.o_198 P) (.node (Mine.o_326 P) .nil .nil) (.node (Mine.o_454 P) .nil .nil))) (.node (Mine.o_102 P) (.node (Mine.o_166 P) (.node (Mine.o_294 P) .nil .nil) (.node (Mine.o_422 P) .nil .nil)) (.node (Mine.o_230 P) (.node (Mine.o_358 P) .nil .nil) .nil))) (.node (Mine.o_54 P) (.node (Mine.o_86 P) (.node (Mine.o_150 P) (.node (Mine.o_278 P) .nil .nil) (.node (Mine.o_406 P) .nil .nil)) (.node (Mine.o_214 P) (.node (Mine.o_342 P) .nil .nil) .nil)) (.node (Mine.o_118 P) (.node (Mine.o_182 P) (.node (Mine.o_310 P) .nil .nil) (.node (Mine.o_438 P) .nil .nil)) (.node (Mine.o_246 P) (.node (Mine.o_374 P) .nil .nil) .nil)))) (.node (Mine.o_30 P) (.node (Mine.o_46 P) (.node (Mine.o_78 P) (.node (Mine.o_142 P) (.node (Mine.o_270 P) .nil .nil) (.node (Mine.o_398 P) .nil .nil)) (.node (Mine.o_206 P) (.node (Mine.o_334 P) .nil .nil) (.node (Mine.o_462 P) .nil .nil))) (.node (Mine.o_110 P) (.node (Mine.o_174 P) (.node (Mine.o_302 P) .nil .nil) (.node (Mine.o_430 P) .nil .nil)) (.node (Mine.o_238 P) (.node (Mine.o_366 P) .nil .nil) .nil))) (.node (Mine.o_62 P) (.node (Mine.o_94 P) (.node (Mine.o_158 P) (.node (Mine.o_286 P) .nil .nil) (.node (Mine.o_414 P) .nil .nil)) (.node (Mine.o_222 P) (.node (Mine.o_350 P) .nil .nil) .nil)) (.node (Mine.o_126 P) (.node (Mine.o_190 P) (.node (Mine.o_318 P) .nil .nil) (.node (Mine.o_446 P) .nil .nil)) (.node (Mine.o_254 P) (.node (Mine.o_382 P) .nil .nil) .nil))))))))
end Mine
namespace Mine
noncomputable abbrev st (T : Params → BT) (w : World) (n t : Nat) (os : OsState) : SharedT := ⟨T w.params, n, lf, #[], boot_drawn, t, os⟩
theorem seg1 (w : World) (os : OsState) : segRunT treeTable PySem.Challenge.pw_rg0021_01 w 11 (some (.ref 6)) 1 925 (st T0 w 15 187 os) (piecesOf sts1 envE cE ⟨0, 0, 0, 0⟩ [topFrame ⟨0, 0, 0, 0⟩]) = some (.next, st T1 w 111 345 os, cE, ⟨50, 0, 50, 11⟩) := by
  unfold piecesOf
  rw [PySem.W.Fast.te10110043849684766642, PySem.W.Fast.te14364793385576792824, PySem.W.Fast.te12563942051412417395]
  kernel_rfl
theorem seg2 (w : World) (os : OsState) : segRunT treeTable PySem.Challenge.pw_rg0021_01 w 11 (some (.ref 6)) 1 700 (st T1 w 111 345 os) (piecesOf sts2 envE cE ⟨50, 0, 50, 11⟩ [topFrame ⟨0, 0, 0, 0⟩]) = some (.next, st T2 w 232 511 os, cE, ⟨158, 0, 174, 16⟩) := by
  unfold piecesOf
  rw [PySem.W.Fast.te10110043849684766642, PySem.W.Fast.te14364793385576792824, PySem.W.Fast.te12563942051412417395]
  kernel_rfl
theorem seg3 (w : World) (os : OsState) : segRunT treeTable PySem.Challenge.pw_rg0021_01 w 11 (some (.ref 6)) 1 817 (st T2 w 232 511 os) (piecesOf sts3 envE cE ⟨158, 0, 174, 16⟩ [topFrame ⟨0, 0, 0, 0⟩]) = some (.next, st T3 w 347 689 os, cE, ⟨280, 0, 289, 14⟩) := by
  unfold piecesOf
  rw [PySem.W.Fast.te10110043849684766642, PySem.W.Fast.te14364793385576792824, PySem.W.Fast.te12563942051412417395]
  kernel_rfl
theorem seg4 (w : World) (os : OsState) : segRunT treeTable PySem.Challenge.pw_rg0021_01 w 11 (some (.ref 6)) 1 907 (st T3 w 347 689 os) (piecesOf sts4 envE cE ⟨280, 0, 289, 14⟩ [topFrame ⟨0, 0, 0, 0⟩]) = some (.next, st T4 w 466 908 os, cE, ⟨395, 0, 430, 15⟩) := by
  unfold piecesOf
  rw [PySem.W.Fast.te10110043849684766642, PySem.W.Fast.te14364793385576792824, PySem.W.Fast.te12563942051412417395]
  kernel_rfl
end Mine
namespace Mine
noncomputable def H1 (P : Params) : Heap := absHeap (T4 P) 466 lf
theorem opens : opening PySem.Challenge.pw_rg0021_01 = plainProg PySem.Challenge.pw_rg0021_01.main.scope.names := by kernel_rfl
theorem fences (s : Shared) : fenceModules? PySem.Challenge.pw_rg0021_01 s = some s := by kernel_rfl
theorem size0 (w : World) : ((boot_heap w.params).isNs mainGlobals && (#[] : Array GenState).size == 0, (boot_heap w.params).objs.size, (boot_heap w.params).nsMap mainGlobals "__annotations__") = (true, 11, some (.ref 6)) := by kernel_rfl
theorem pre0 (w : World) (os : OsState) : topGo treeTable PySem.Challenge.pw_rg0021_01 w 11 (some (.ref 6)) 12 ⟨boot_heap w.params, #[], boot_drawn, boot_toks, os⟩ (topStub PySem.Challenge.pw_rg0021_01) = some ((st T0 w 15 187 os).abs, ⟨denote treeTable cE, cE, ⟨0, 0, 0, 0⟩, [topFrame ⟨0, 0, 0, 0⟩]⟩) := by
  kernel_rfl
theorem block0 (w : World) (os : OsState) : segRun treeTable PySem.Challenge.pw_rg0021_01 w 11 (some (.ref 6)) 1 1 (st T0 w 15 187 os).abs (blockOf bE envE cE ⟨0, 0, 0, 0⟩ [topFrame ⟨0, 0, 0, 0⟩]) = some (.next, (st T0 w 15 187 os).abs, cE, ⟨0, 0, 0, 0⟩) := by
  kernel_rfl
theorem fin0 (w : World) (os : OsState) : topRun treeTable PySem.Challenge.pw_rg0021_01 w 11 (some (.ref 6)) 2 (st T4 w 466 908 os).abs ⟨doneF .next, cE, ⟨395, 0, 430, 15⟩, [topFrame ⟨0, 0, 0, 0⟩]⟩ = some (st T4 w 466 908 os).abs := by
  kernel_rfl
theorem body0 : bE = sts1 ++ (sts2 ++ (sts3 ++ (sts4 ++ []))) := by kernel_rfl
theorem run0 (w : World) (os : OsState) : topRun treeTable PySem.Challenge.pw_rg0021_01 w 11 (some (.ref 6)) (12 + (1 + (925 + (700 + (817 + (907 + 2)))))) ⟨boot_heap w.params, #[], boot_drawn, boot_toks, os⟩ (topStub PySem.Challenge.pw_rg0021_01) = some ⟨H1 w.params, #[], boot_drawn, 908, os⟩ := by
  refine go_top (pre0 w os) ?_
  refine piece_block (block0 w os) ?_
  rw [body0]
  refine piece_app (segRun_of (seg1 w os)) ?_
  refine piece_app (segRun_of (seg2 w os)) ?_
  refine piece_app (segRun_of (seg3 w os)) ?_
  refine piece_app (segRun_of (seg4 w os)) ?_
  exact piece_nil (fin0 w os)
end Mine
namespace Mine
noncomputable def qv : Program := view PySem.Challenge.pw_rg0021_01 [64]
noncomputable def looseL : List Str := ([Str.ofString "AdaError", Str.ofString "CheckFault", Str.ofString "Entity", Str.ofString "is_overloadable", Str.ofString "homographs", Str.ofString "is_operator_sign", Str.ofString "mentions_type", Str.ofString "SEPARATOR", Str.ofString "unique", Str.ofString "FRAME_KINDS"] : List Str) ++ ([Str.ofString "Region", Str.ofString "open_region", Str.ofString "encloses", Str.ofString "frame_region", Str.ofString "give_unique", Str.ofString "settle_rivals", Str.ofString "declare", Str.ofString "make_ready", Str.ofString "declare_ready", Str.ofString "note_type"] : List Str) ++ ([Str.ofString "is_hidden", Str.ofString "immediate_entities", Str.ofString "stays_shown", Str.ofString "is_offered", Str.ofString "offered_operators", Str.ofString "formals_beside", Str.ofString "offered_entities", Str.ofString "look_up", Str.ofString "select_from", Str.ofString "view_of"] : List Str) ++ ([Str.ofString "ups_to", Str.ofString "Type", Str.ofString "Subtype", Str.ofString "int_type", Str.ofString "derived_type", Str.ofString "numbered", Str.ofString "same_type", Str.ofString "whole_subtype", Str.ofString "seen_class", Str.ofString "seen_type"] : List Str) ++ ([Str.ofString "named_entities", Str.ofString "frames_to", Str.ofString "refuse", Str.ofString "type_entity", Str.ofString "is_settled", Str.ofString "seen_subtype", Str.ofString "subtype_here", Str.ofString "type_named", Str.ofString "Scope", Str.ofString "Limits"] : List Str) ++ ([Str.ofString "_law_rest", Str.ofString "_law_drop", Str.ofString "_law_private"] : List Str)
noncomputable def Xt0 (s : Shared) : Bool := xlAt qv [] s && recOk (RowW.records (OpenRow.toRowW (OpenLaw.row PySem.Challenge.rw_rg0021_01))) s
noncomputable def look1 (B : Heap) (s : Shared) : Bool := staticsOk (importedModules PySem.Challenge.pw_rg0021_01.main.body) B s.heap && namesBound PySem.Challenge.pw_rg0021_01 s.heap && gensDone s && laidKept B s.heap
noncomputable def look2 (s : Shared) := openSeen qv looseL (importedModules PySem.Challenge.pw_rg0021_01.main.body) Xt0 true s
noncomputable def good2 := openGood qv looseL
end Mine
namespace Mine
theorem look1_ok (w : World) (os : OsState) : look1 (boot_heap w.params) ⟨H1 w.params, #[], boot_drawn, 908, os⟩ = true := by
  kernel_rfl
theorem look2_ok (w : World) (os : OsState) : look2 ⟨H1 w.params, #[], boot_drawn, 908, os⟩ = good2 := by
  kernel_rfl
theorem left0 : LeftO PySem.Challenge.pw_rg0021_01 qv looseL Xt0 (fun s => s.heap) (fun w => H1 w.params) 10000 :=
  LeftO.of_pieces (H₀ := boot_heap) (H₁ := H1) (gs₀ := #[]) (gs₁ := #[]) (d₀ := boot_drawn) (d₁ := boot_drawn) (k₀ := boot_toks) (k₁ := 908) (m₀ := 11) (ann := some (.ref 6))
    (boot_open opens (by decide) fences) size0 run0 (by decide)
    (fun w => funext fun os => by
      have a := look1_ok w os
      have b := look2_ok w os
      unfold look1 at a
      unfold look2 good2 at b
      exact Prod.ext a (Prod.ext b rfl))
end Mine
namespace Mine
noncomputable def lookN {α : Type} : Nat → List (Nat × α) → Option α
  | _, [] => none
  | a, (b, v) :: r => bif Nat.beq a b then some v else lookN a r
noncomputable def fnOf (s : Stmt) (d : List AV) : Fn := match s with
  | .FunctionDef _ a b _ _ _ sc _ _ _ => ⟨a.args.map (·.arg), b, sc, d⟩
  | _ => ⟨[], [], ⟨.function, [], false, false, []⟩, []⟩
noncomputable def glob0 : List (Str × Nat) := [(Str.ofString "AdaError", 31), (Str.ofString "CheckFault", 51), (Str.ofString "Entity", 70), (Str.ofString "is_overloadable", 81), (Str.ofString "homographs", 88), (Str.ofString "is_operator_sign", 95), (Str.ofString "mentions_type", 102), (Str.ofString "unique", 109), (Str.ofString "FRAME_KINDS", 110), (Str.ofString "Region", 127)]
noncomputable def glob1 : List (Str × Nat) := [(Str.ofString "open_region", 138), (Str.ofString "encloses", 145), (Str.ofString "frame_region", 152), (Str.ofString "give_unique", 159), (Str.ofString "settle_rivals", 164), (Str.ofString "declare", 171), (Str.ofString "make_ready", 178), (Str.ofString "declare_ready", 185), (Str.ofString "note_type", 192), (Str.ofString "is_hidden", 199)]
noncomputable def glob2 : List (Str × Nat) := [(Str.ofString "immediate_entities", 204), (Str.ofString "stays_shown", 209), (Str.ofString "is_offered", 216), (Str.ofString "offered_operators", 221), (Str.ofString "formals_beside", 226), (Str.ofString "offered_entities", 231), (Str.ofString "look_up", 236), (Str.ofString "select_from", 241), (Str.ofString "view_of", 248), (Str.ofString "ups_to", 255)]
noncomputable def glob3 : List (Str × Nat) := [(Str.ofString "Type", 272), (Str.ofString "Subtype", 293), (Str.ofString "int_type", 304), (Str.ofString "derived_type", 311), (Str.ofString "numbered", 318), (Str.ofString "same_type", 325), (Str.ofString "whole_subtype", 332), (Str.ofString "seen_class", 339), (Str.ofString "seen_type", 346), (Str.ofString "named_entities", 353)]
noncomputable def glob4 : List (Str × Nat) := [(Str.ofString "frames_to", 360), (Str.ofString "refuse", 367), (Str.ofString "type_entity", 374), (Str.ofString "is_settled", 381), (Str.ofString "seen_subtype", 388), (Str.ofString "subtype_here", 395), (Str.ofString "type_named", 402), (Str.ofString "Scope", 419), (Str.ofString "Limits", 441), (Str.ofString "_law_rest", 446)]
noncomputable def glob5 : List (Str × Nat) := [(Str.ofString "_law_drop", 453), (Str.ofString "_law_private", 460), (Str.ofString "law", 465)]
noncomputable def globT (x : Str) : Option Value := match getN x (glob0 ++ glob1 ++ glob2 ++ glob3 ++ glob4 ++ glob5) with
  | some a => some (.ref a)
  | none => bif sEqB x (Str.ofString "len") then some (.builtin "len") else bif sEqB x (Str.ofString "dict") then some (.type "dict") else none
noncomputable def fns0 : List (Nat × Fn) := [(81, fnOf (stAt 5) []), (88, fnOf (stAt 6) []), (95, fnOf (stAt 7) []), (102, fnOf (stAt 8) []), (109, fnOf (stAt 11) []), (138, fnOf (stAt 15) []), (145, fnOf (stAt 16) []), (152, fnOf (stAt 17) []), (159, fnOf (stAt 18) []), (164, fnOf (stAt 19) [])]
noncomputable def fns1 : List (Nat × Fn) := [(171, fnOf (stAt 20) []), (178, fnOf (stAt 21) []), (185, fnOf (stAt 22) []), (192, fnOf (stAt 23) []), (199, fnOf (stAt 24) []), (204, fnOf (stAt 25) []), (209, fnOf (stAt 26) []), (216, fnOf (stAt 27) []), (221, fnOf (stAt 28) []), (226, fnOf (stAt 29) [])]
noncomputable def fns2 : List (Nat × Fn) := [(231, fnOf (stAt 30) []), (236, fnOf (stAt 31) []), (241, fnOf (stAt 32) []), (248, fnOf (stAt 33) []), (255, fnOf (stAt 34) []), (304, fnOf (stAt 38) []), (311, fnOf (stAt 39) []), (318, fnOf (stAt 40) []), (325, fnOf (stAt 41) []), (332, fnOf (stAt 42) [])]
noncomputable def fns3 : List (Nat × Fn) := [(339, fnOf (stAt 44) []), (346, fnOf (stAt 45) []), (353, fnOf (stAt 46) []), (360, fnOf (stAt 48) []), (367, fnOf (stAt 50) []), (374, fnOf (stAt 51) []), (381, fnOf (stAt 52) []), (388, fnOf (stAt 53) []), (395, fnOf (stAt 54) []), (402, fnOf (stAt 55) [])]
noncomputable def fns4 : List (Nat × Fn) := [(460, fnOf (stAt 63) []), (67, fnOf (inAt 4 0) []), (124, fnOf (inAt 14 0) []), (269, fnOf (inAt 36 0) []), (290, fnOf (inAt 37 0) []), (416, fnOf (inAt 57 0) []), (438, fnOf (inAt 59 0) [.int 32, .int (10 ^ 6), .int 50, .int (10 ^ 4), .int (10 ^ 5), .int 50, .int (10 ^ 6)])]
noncomputable def fnT (a : Addr) : Option Fn := lookN a (fns0 ++ fns1 ++ fns2 ++ fns3 ++ fns4)
noncomputable def clsT (a : Addr) : Option Addr := lookN a [(70, 67), (127, 124), (272, 269), (293, 290), (419, 416), (441, 438)]
noncomputable def atEntity : List Str := [Str.ofString "kind", Str.ofString "name", Str.ofString "key", Str.ofString "subtype", Str.ofString "data", Str.ofString "line", Str.ofString "number", Str.ofString "unique", Str.ofString "home", Str.ofString "part"] ++ [Str.ofString "region", Str.ofString "full", Str.ofString "is_ready", Str.ofString "is_complete", Str.ofString "is_constant", Str.ofString "is_implicit", Str.ofString "is_overridden"]
noncomputable def atRegion : List Str := [Str.ofString "kind", Str.ofString "owner", Str.ofString "parent", Str.ofString "root", Str.ofString "made", Str.ofString "number", Str.ofString "level", Str.ofString "part", Str.ofString "names", Str.ofString "order"] ++ [Str.ofString "uses", Str.ofString "use_types", Str.ofString "counts", Str.ofString "type_homes", Str.ofString "generic"]
noncomputable def atType : List Str := [Str.ofString "kind", Str.ofString "name", Str.ofString "number", Str.ofString "parent", Str.ofString "low", Str.ofString "high", Str.ofString "literals", Str.ofString "modulus", Str.ofString "small", Str.ofString "index"] ++ [Str.ofString "component", Str.ofString "is_constrained", Str.ofString "discriminants", Str.ofString "components", Str.ofString "variant", Str.ofString "designated", Str.ofString "is_tagged", Str.ofString "wide", Str.ofString "is_limited", Str.ofString "is_private"] ++ [Str.ofString "is_abstract", Str.ofString "is_constant", Str.ofString "is_late", Str.ofString "operations"]
noncomputable def atSubtype : List Str := [Str.ofString "type", Str.ofString "constraint"]
noncomputable def atScope : List Str := [Str.ofString "place", Str.ofString "limits", Str.ofString "choose", Str.ofString "types", Str.ofString "typed", Str.ofString "static", Str.ofString "builders", Str.ofString "ways", Str.ofString "declarations", Str.ofString "statements"] ++ [Str.ofString "line", Str.ofString "count", Str.ofString "under_way"]
noncomputable def atLimits : List Str := [Str.ofString "width", Str.ofString "steps", Str.ofString "depth", Str.ofString "members", Str.ofString "text", Str.ofString "tasks", Str.ofString "heap"]
noncomputable def attrT (a : Addr) : List Str := (lookN a [(70, atEntity), (127, atRegion), (272, atType), (293, atSubtype), (419, atScope), (441, atLimits)]).getD []
noncomputable def tupT (a : Addr) : Option (List Str) := lookN a [(110, [Str.ofString "root", Str.ofString "sub", Str.ofString "task", Str.ofString "protected"])]
noncomputable def tp : Tp := ⟨globT, fnT, clsT, attrT, tupT, 453⟩
end Mine
namespace Mine
noncomputable def K_0 (P : Params) : Frag := [(2, o_2 P), (3, o_3 P), (48, o_48 P), (49, o_49 P), (50, o_50 P), (51, o_51 P), (52, o_52 P), (53, o_53 P), (54, o_54 P), (55, o_55 P), (56, o_56 P), (57, o_57 P), (58, o_58 P), (59, o_59 P), (60, o_60 P), (61, o_61 P), (62, o_62 P), (63, o_63 P), (64, o_64 P), (65, o_65 P), (66, o_66 P), (67, o_67 P), (68, o_68 P), (69, o_69 P)]
noncomputable def K_1 (P : Params) : Frag := [(70, o_70 P), (80, o_80 P), (81, o_81 P), (87, o_87 P), (88, o_88 P), (94, o_94 P), (95, o_95 P), (101, o_101 P), (102, o_102 P), (105, o_105 P), (106, o_106 P), (107, o_107 P), (108, o_108 P), (109, o_109 P), (110, o_110 P), (111, o_111 P), (112, o_112 P), (113, o_113 P), (114, o_114 P), (115, o_115 P), (116, o_116 P), (117, o_117 P), (118, o_118 P), (119, o_119 P)]
noncomputable def K_2 (P : Params) : Frag := [(120, o_120 P), (121, o_121 P), (122, o_122 P), (123, o_123 P), (124, o_124 P), (125, o_125 P), (126, o_126 P), (127, o_127 P), (137, o_137 P), (138, o_138 P), (144, o_144 P), (145, o_145 P), (151, o_151 P), (152, o_152 P), (158, o_158 P), (159, o_159 P), (163, o_163 P), (164, o_164 P), (170, o_170 P), (171, o_171 P), (177, o_177 P), (178, o_178 P), (184, o_184 P), (185, o_185 P)]
noncomputable def K_3 (P : Params) : Frag := [(191, o_191 P), (192, o_192 P), (198, o_198 P), (199, o_199 P), (203, o_203 P), (204, o_204 P), (208, o_208 P), (209, o_209 P), (215, o_215 P), (216, o_216 P), (220, o_220 P), (221, o_221 P), (225, o_225 P), (226, o_226 P), (230, o_230 P), (231, o_231 P), (235, o_235 P), (236, o_236 P), (240, o_240 P), (241, o_241 P), (247, o_247 P), (248, o_248 P), (250, o_250 P), (251, o_251 P)]
noncomputable def K_4 (P : Params) : Frag := [(252, o_252 P), (253, o_253 P), (254, o_254 P), (255, o_255 P), (256, o_256 P), (257, o_257 P), (258, o_258 P), (259, o_259 P), (260, o_260 P), (261, o_261 P), (262, o_262 P), (263, o_263 P), (264, o_264 P), (265, o_265 P), (266, o_266 P), (267, o_267 P), (268, o_268 P), (269, o_269 P), (270, o_270 P), (271, o_271 P), (272, o_272 P), (273, o_273 P), (274, o_274 P), (275, o_275 P)]
noncomputable def K_5 (P : Params) : Frag := [(276, o_276 P), (277, o_277 P), (278, o_278 P), (279, o_279 P), (280, o_280 P), (281, o_281 P), (282, o_282 P), (283, o_283 P), (284, o_284 P), (285, o_285 P), (286, o_286 P), (287, o_287 P), (288, o_288 P), (289, o_289 P), (290, o_290 P), (291, o_291 P), (292, o_292 P), (293, o_293 P), (303, o_303 P), (304, o_304 P), (310, o_310 P), (311, o_311 P), (317, o_317 P), (318, o_318 P)]
noncomputable def K_6 (P : Params) : Frag := [(324, o_324 P), (325, o_325 P), (331, o_331 P), (332, o_332 P), (338, o_338 P), (339, o_339 P), (345, o_345 P), (346, o_346 P), (352, o_352 P), (353, o_353 P), (359, o_359 P), (360, o_360 P), (366, o_366 P), (367, o_367 P), (373, o_373 P), (374, o_374 P), (380, o_380 P), (381, o_381 P), (387, o_387 P), (388, o_388 P), (394, o_394 P), (395, o_395 P), (397, o_397 P), (398, o_398 P)]
noncomputable def K_7 (P : Params) : Frag := [(399, o_399 P), (400, o_400 P), (401, o_401 P), (402, o_402 P), (403, o_403 P), (404, o_404 P), (405, o_405 P), (406, o_406 P), (407, o_407 P), (408, o_408 P), (409, o_409 P), (410, o_410 P), (411, o_411 P), (412, o_412 P), (413, o_413 P), (414, o_414 P), (415, o_415 P), (416, o_416 P), (417, o_417 P), (418, o_418 P), (419, o_419 P), (420, o_420 P), (421, o_421 P), (422, o_422 P)]
noncomputable def K_8 (P : Params) : Frag := [(423, o_423 P), (424, o_424 P), (425, o_425 P), (426, o_426 P), (427, o_427 P), (428, o_428 P), (429, o_429 P), (430, o_430 P), (431, o_431 P), (432, o_432 P), (433, o_433 P), (434, o_434 P), (435, o_435 P), (436, o_436 P), (437, o_437 P), (438, o_438 P), (439, o_439 P), (440, o_440 P), (441, o_441 P), (446, o_446 P), (452, o_452 P), (453, o_453 P), (459, o_459 P), (460, o_460 P)]
noncomputable def K0 (P : Params) : Frag := K_0 P ++ (K_1 P ++ (K_2 P ++ (K_3 P ++ (K_4 P ++ (K_5 P ++ (K_6 P ++ (K_7 P ++ (K_8 P))))))))
end Mine
namespace Mine
theorem kin0 (P : Params) : (K0 P).map (fun p => (H1 P).get? p.1) = (K0 P).map (fun p => some p.2) := by kernel_rfl
theorem glob0_ok (P : Params) : (glob0 ++ glob1).map (fun p => nsIn (K0 P) mainGlobals p.1) = (glob0 ++ glob1).map (fun p => some (some (.ref p.2))) := by kernel_rfl
end Mine
namespace Mine
noncomputable def attrChk (K : Frag) (C : Addr) (a : Str) : Bool := plainGet K C a && hasDictIn K C && (match findIn K (.ref C) a with | some attr => noGet K attr | none => false) &&
  (findIn K (.ref C) "__setattr__" == some (some (.builtin "object.__setattr__"))) && plainOver K C && (takerIn K C a == some none)
noncomputable def clsChk (K : Frag) (C init : Addr) : Bool := makesIn K C && (findIn K (.ref C) "__init__" == some (some (.ref init))) && isFn K (.ref init)
theorem cls_all (P : Params) : ([(70, 67), (127, 124), (272, 269), (293, 290), (419, 416), (441, 438)] : List (Nat × Nat)).all (fun p => clsChk (K0 P) p.1 p.2) = true := by kernel_rfl
theorem keep_all (P : Params) : (fns0 ++ fns1 ++ fns2 ++ fns3 ++ fns4).all (fun p => keepIn (K0 P) (.ref p.1)) = true := by kernel_rfl
theorem attr_lim (P : Params) : atLimits.all (attrChk (K0 P) 441) = true := by kernel_rfl
theorem attr_ent (P : Params) : atEntity.all (attrChk (K0 P) 70) = true := by kernel_rfl
end Mine
namespace Mine
noncomputable def argsOf (s : Stmt) : Arguments := match s with | .FunctionDef _ a _ _ _ _ _ _ _ _ => a | _ => ⟨[], [], none, [], [], none, []⟩
theorem fn_81 (P : Params) : FnOK (K0 P) 81 (fnOf (stAt 5) []) := fnOK_of (params := argsOf (stAt 5)) (name := (Str.ofString "is_overloadable")) (qual := (Str.ofString "is_overloadable")) (doc := .none) (pm := (.str (Str.ofString "adacore.entities") 244)) (cdv := (.ref 80)) (ct := .none) (an := none) (oc := .type "function") (od := none) (osl := #[]) (by kernel_rfl) rfl (by kernel_rfl) (by kernel_rfl) (by kernel_rfl)
theorem fn_88 (P : Params) : FnOK (K0 P) 88 (fnOf (stAt 6) []) := fnOK_of (params := argsOf (stAt 6)) (name := (Str.ofString "homographs")) (qual := (Str.ofString "homographs")) (doc := .none) (pm := (.str (Str.ofString "adacore.entities") 244)) (cdv := (.ref 87)) (ct := .none) (an := none) (oc := .type "function") (od := none) (osl := #[]) (by kernel_rfl) rfl (by kernel_rfl) (by kernel_rfl) (by kernel_rfl)
theorem fn_95 (P : Params) : FnOK (K0 P) 95 (fnOf (stAt 7) []) := fnOK_of (params := argsOf (stAt 7)) (name := (Str.ofString "is_operator_sign")) (qual := (Str.ofString "is_operator_sign")) (doc := .none) (pm := (.str (Str.ofString "adacore.entities") 244)) (cdv := (.ref 94)) (ct := .none) (an := none) (oc := .type "function") (od := none) (osl := #[]) (by kernel_rfl) rfl (by kernel_rfl) (by kernel_rfl) (by kernel_rfl)
theorem fn_102 (P : Params) : FnOK (K0 P) 102 (fnOf (stAt 8) []) := fnOK_of (params := argsOf (stAt 8)) (name := (Str.ofString "mentions_type")) (qual := (Str.ofString "mentions_type")) (doc := .none) (pm := (.str (Str.ofString "adacore.entities") 244)) (cdv := (.ref 101)) (ct := .none) (an := none) (oc := .type "function") (od := none) (osl := #[]) (by kernel_rfl) rfl (by kernel_rfl) (by kernel_rfl) (by kernel_rfl)
theorem fn_109 (P : Params) : FnOK (K0 P) 109 (fnOf (stAt 11) []) := fnOK_of (params := argsOf (stAt 11)) (name := (Str.ofString "unique")) (qual := (Str.ofString "unique")) (doc := .none) (pm := (.str (Str.ofString "adacore.names") 326)) (cdv := (.ref 108)) (ct := .none) (an := none) (oc := .type "function") (od := none) (osl := #[]) (by kernel_rfl) rfl (by kernel_rfl) (by kernel_rfl) (by kernel_rfl)
theorem fn_138 (P : Params) : FnOK (K0 P) 138 (fnOf (stAt 15) []) := fnOK_of (params := argsOf (stAt 15)) (name := (Str.ofString "open_region")) (qual := (Str.ofString "open_region")) (doc := .none) (pm := (.str (Str.ofString "adacore.scopes") 338)) (cdv := (.ref 137)) (ct := .none) (an := none) (oc := .type "function") (od := none) (osl := #[]) (by kernel_rfl) rfl (by kernel_rfl) (by kernel_rfl) (by kernel_rfl)
theorem fn_145 (P : Params) : FnOK (K0 P) 145 (fnOf (stAt 16) []) := fnOK_of (params := argsOf (stAt 16)) (name := (Str.ofString "encloses")) (qual := (Str.ofString "encloses")) (doc := .none) (pm := (.str (Str.ofString "adacore.scopes") 338)) (cdv := (.ref 144)) (ct := .none) (an := none) (oc := .type "function") (od := none) (osl := #[]) (by kernel_rfl) rfl (by kernel_rfl) (by kernel_rfl) (by kernel_rfl)
theorem fn_152 (P : Params) : FnOK (K0 P) 152 (fnOf (stAt 17) []) := fnOK_of (params := argsOf (stAt 17)) (name := (Str.ofString "frame_region")) (qual := (Str.ofString "frame_region")) (doc := .none) (pm := (.str (Str.ofString "adacore.scopes") 338)) (cdv := (.ref 151)) (ct := .none) (an := none) (oc := .type "function") (od := none) (osl := #[]) (by kernel_rfl) rfl (by kernel_rfl) (by kernel_rfl) (by kernel_rfl)
theorem fn_159 (P : Params) : FnOK (K0 P) 159 (fnOf (stAt 18) []) := fnOK_of (params := argsOf (stAt 18)) (name := (Str.ofString "give_unique")) (qual := (Str.ofString "give_unique")) (doc := .none) (pm := (.str (Str.ofString "adacore.scopes") 338)) (cdv := (.ref 158)) (ct := .none) (an := none) (oc := .type "function") (od := none) (osl := #[]) (by kernel_rfl) rfl (by kernel_rfl) (by kernel_rfl) (by kernel_rfl)
theorem fn_164 (P : Params) : FnOK (K0 P) 164 (fnOf (stAt 19) []) := fnOK_of (params := argsOf (stAt 19)) (name := (Str.ofString "settle_rivals")) (qual := (Str.ofString "settle_rivals")) (doc := .none) (pm := (.str (Str.ofString "adacore.scopes") 338)) (cdv := (.ref 163)) (ct := .none) (an := none) (oc := .type "function") (od := none) (osl := #[]) (by kernel_rfl) rfl (by kernel_rfl) (by kernel_rfl) (by kernel_rfl)
theorem fn_171 (P : Params) : FnOK (K0 P) 171 (fnOf (stAt 20) []) := fnOK_of (params := argsOf (stAt 20)) (name := (Str.ofString "declare")) (qual := (Str.ofString "declare")) (doc := .none) (pm := (.str (Str.ofString "adacore.scopes") 338)) (cdv := (.ref 170)) (ct := .none) (an := none) (oc := .type "function") (od := none) (osl := #[]) (by kernel_rfl) rfl (by kernel_rfl) (by kernel_rfl) (by kernel_rfl)
theorem fn_178 (P : Params) : FnOK (K0 P) 178 (fnOf (stAt 21) []) := fnOK_of (params := argsOf (stAt 21)) (name := (Str.ofString "make_ready")) (qual := (Str.ofString "make_ready")) (doc := .none) (pm := (.str (Str.ofString "adacore.scopes") 338)) (cdv := (.ref 177)) (ct := .none) (an := none) (oc := .type "function") (od := none) (osl := #[]) (by kernel_rfl) rfl (by kernel_rfl) (by kernel_rfl) (by kernel_rfl)
theorem fn_185 (P : Params) : FnOK (K0 P) 185 (fnOf (stAt 22) []) := fnOK_of (params := argsOf (stAt 22)) (name := (Str.ofString "declare_ready")) (qual := (Str.ofString "declare_ready")) (doc := .none) (pm := (.str (Str.ofString "adacore.scopes") 338)) (cdv := (.ref 184)) (ct := .none) (an := none) (oc := .type "function") (od := none) (osl := #[]) (by kernel_rfl) rfl (by kernel_rfl) (by kernel_rfl) (by kernel_rfl)
theorem fn_192 (P : Params) : FnOK (K0 P) 192 (fnOf (stAt 23) []) := fnOK_of (params := argsOf (stAt 23)) (name := (Str.ofString "note_type")) (qual := (Str.ofString "note_type")) (doc := .none) (pm := (.str (Str.ofString "adacore.scopes") 338)) (cdv := (.ref 191)) (ct := .none) (an := none) (oc := .type "function") (od := none) (osl := #[]) (by kernel_rfl) rfl (by kernel_rfl) (by kernel_rfl) (by kernel_rfl)
theorem fn_199 (P : Params) : FnOK (K0 P) 199 (fnOf (stAt 24) []) := fnOK_of (params := argsOf (stAt 24)) (name := (Str.ofString "is_hidden")) (qual := (Str.ofString "is_hidden")) (doc := .none) (pm := (.str (Str.ofString "adacore.scopes") 338)) (cdv := (.ref 198)) (ct := .none) (an := none) (oc := .type "function") (od := none) (osl := #[]) (by kernel_rfl) rfl (by kernel_rfl) (by kernel_rfl) (by kernel_rfl)
theorem fn_204 (P : Params) : FnOK (K0 P) 204 (fnOf (stAt 25) []) := fnOK_of (params := argsOf (stAt 25)) (name := (Str.ofString "immediate_entities")) (qual := (Str.ofString "immediate_entities")) (doc := .none) (pm := (.str (Str.ofString "adacore.scopes") 338)) (cdv := (.ref 203)) (ct := .none) (an := none) (oc := .type "function") (od := none) (osl := #[]) (by kernel_rfl) rfl (by kernel_rfl) (by kernel_rfl) (by kernel_rfl)
theorem fn_209 (P : Params) : FnOK (K0 P) 209 (fnOf (stAt 26) []) := fnOK_of (params := argsOf (stAt 26)) (name := (Str.ofString "stays_shown")) (qual := (Str.ofString "stays_shown")) (doc := .none) (pm := (.str (Str.ofString "adacore.scopes") 338)) (cdv := (.ref 208)) (ct := .none) (an := none) (oc := .type "function") (od := none) (osl := #[]) (by kernel_rfl) rfl (by kernel_rfl) (by kernel_rfl) (by kernel_rfl)
theorem fn_216 (P : Params) : FnOK (K0 P) 216 (fnOf (stAt 27) []) := fnOK_of (params := argsOf (stAt 27)) (name := (Str.ofString "is_offered")) (qual := (Str.ofString "is_offered")) (doc := .none) (pm := (.str (Str.ofString "adacore.scopes") 338)) (cdv := (.ref 215)) (ct := .none) (an := none) (oc := .type "function") (od := none) (osl := #[]) (by kernel_rfl) rfl (by kernel_rfl) (by kernel_rfl) (by kernel_rfl)
theorem fn_221 (P : Params) : FnOK (K0 P) 221 (fnOf (stAt 28) []) := fnOK_of (params := argsOf (stAt 28)) (name := (Str.ofString "offered_operators")) (qual := (Str.ofString "offered_operators")) (doc := .none) (pm := (.str (Str.ofString "adacore.scopes") 338)) (cdv := (.ref 220)) (ct := .none) (an := none) (oc := .type "function") (od := none) (osl := #[]) (by kernel_rfl) rfl (by kernel_rfl) (by kernel_rfl) (by kernel_rfl)
theorem fn_226 (P : Params) : FnOK (K0 P) 226 (fnOf (stAt 29) []) := fnOK_of (params := argsOf (stAt 29)) (name := (Str.ofString "formals_beside")) (qual := (Str.ofString "formals_beside")) (doc := .none) (pm := (.str (Str.ofString "adacore.scopes") 338)) (cdv := (.ref 225)) (ct := .none) (an := none) (oc := .type "function") (od := none) (osl := #[]) (by kernel_rfl) rfl (by kernel_rfl) (by kernel_rfl) (by kernel_rfl)
theorem fn_231 (P : Params) : FnOK (K0 P) 231 (fnOf (stAt 30) []) := fnOK_of (params := argsOf (stAt 30)) (name := (Str.ofString "offered_entities")) (qual := (Str.ofString "offered_entities")) (doc := .none) (pm := (.str (Str.ofString "adacore.scopes") 338)) (cdv := (.ref 230)) (ct := .none) (an := none) (oc := .type "function") (od := none) (osl := #[]) (by kernel_rfl) rfl (by kernel_rfl) (by kernel_rfl) (by kernel_rfl)
theorem fn_236 (P : Params) : FnOK (K0 P) 236 (fnOf (stAt 31) []) := fnOK_of (params := argsOf (stAt 31)) (name := (Str.ofString "look_up")) (qual := (Str.ofString "look_up")) (doc := .none) (pm := (.str (Str.ofString "adacore.scopes") 338)) (cdv := (.ref 235)) (ct := .none) (an := none) (oc := .type "function") (od := none) (osl := #[]) (by kernel_rfl) rfl (by kernel_rfl) (by kernel_rfl) (by kernel_rfl)
theorem fn_241 (P : Params) : FnOK (K0 P) 241 (fnOf (stAt 32) []) := fnOK_of (params := argsOf (stAt 32)) (name := (Str.ofString "select_from")) (qual := (Str.ofString "select_from")) (doc := .none) (pm := (.str (Str.ofString "adacore.scopes") 338)) (cdv := (.ref 240)) (ct := .none) (an := none) (oc := .type "function") (od := none) (osl := #[]) (by kernel_rfl) rfl (by kernel_rfl) (by kernel_rfl) (by kernel_rfl)
theorem fn_248 (P : Params) : FnOK (K0 P) 248 (fnOf (stAt 33) []) := fnOK_of (params := argsOf (stAt 33)) (name := (Str.ofString "view_of")) (qual := (Str.ofString "view_of")) (doc := .none) (pm := (.str (Str.ofString "adacore.scopes") 338)) (cdv := (.ref 247)) (ct := .none) (an := none) (oc := .type "function") (od := none) (osl := #[]) (by kernel_rfl) rfl (by kernel_rfl) (by kernel_rfl) (by kernel_rfl)
theorem fn_255 (P : Params) : FnOK (K0 P) 255 (fnOf (stAt 34) []) := fnOK_of (params := argsOf (stAt 34)) (name := (Str.ofString "ups_to")) (qual := (Str.ofString "ups_to")) (doc := .none) (pm := (.str (Str.ofString "adacore.scopes") 338)) (cdv := (.ref 254)) (ct := .none) (an := none) (oc := .type "function") (od := none) (osl := #[]) (by kernel_rfl) rfl (by kernel_rfl) (by kernel_rfl) (by kernel_rfl)
theorem fn_304 (P : Params) : FnOK (K0 P) 304 (fnOf (stAt 38) []) := fnOK_of (params := argsOf (stAt 38)) (name := (Str.ofString "int_type")) (qual := (Str.ofString "int_type")) (doc := .none) (pm := (.str (Str.ofString "adacore.types") 539)) (cdv := (.ref 303)) (ct := .none) (an := none) (oc := .type "function") (od := none) (osl := #[]) (by kernel_rfl) rfl (by kernel_rfl) (by kernel_rfl) (by kernel_rfl)
theorem fn_311 (P : Params) : FnOK (K0 P) 311 (fnOf (stAt 39) []) := fnOK_of (params := argsOf (stAt 39)) (name := (Str.ofString "derived_type")) (qual := (Str.ofString "derived_type")) (doc := .none) (pm := (.str (Str.ofString "adacore.types") 539)) (cdv := (.ref 310)) (ct := .none) (an := none) (oc := .type "function") (od := none) (osl := #[]) (by kernel_rfl) rfl (by kernel_rfl) (by kernel_rfl) (by kernel_rfl)
theorem fn_318 (P : Params) : FnOK (K0 P) 318 (fnOf (stAt 40) []) := fnOK_of (params := argsOf (stAt 40)) (name := (Str.ofString "numbered")) (qual := (Str.ofString "numbered")) (doc := .none) (pm := (.str (Str.ofString "adacore.types") 539)) (cdv := (.ref 317)) (ct := .none) (an := none) (oc := .type "function") (od := none) (osl := #[]) (by kernel_rfl) rfl (by kernel_rfl) (by kernel_rfl) (by kernel_rfl)
theorem fn_325 (P : Params) : FnOK (K0 P) 325 (fnOf (stAt 41) []) := fnOK_of (params := argsOf (stAt 41)) (name := (Str.ofString "same_type")) (qual := (Str.ofString "same_type")) (doc := .none) (pm := (.str (Str.ofString "adacore.types") 539)) (cdv := (.ref 324)) (ct := .none) (an := none) (oc := .type "function") (od := none) (osl := #[]) (by kernel_rfl) rfl (by kernel_rfl) (by kernel_rfl) (by kernel_rfl)
theorem fn_332 (P : Params) : FnOK (K0 P) 332 (fnOf (stAt 42) []) := fnOK_of (params := argsOf (stAt 42)) (name := (Str.ofString "whole_subtype")) (qual := (Str.ofString "whole_subtype")) (doc := .none) (pm := (.str (Str.ofString "adacore.types") 539)) (cdv := (.ref 331)) (ct := .none) (an := none) (oc := .type "function") (od := none) (osl := #[]) (by kernel_rfl) rfl (by kernel_rfl) (by kernel_rfl) (by kernel_rfl)
theorem fn_339 (P : Params) : FnOK (K0 P) 339 (fnOf (stAt 44) []) := fnOK_of (params := argsOf (stAt 44)) (name := (Str.ofString "seen_class")) (qual := (Str.ofString "seen_class")) (doc := .none) (pm := (.str (Str.ofString "adacore.meanings") 667)) (cdv := (.ref 338)) (ct := .none) (an := none) (oc := .type "function") (od := none) (osl := #[]) (by kernel_rfl) rfl (by kernel_rfl) (by kernel_rfl) (by kernel_rfl)
theorem fn_346 (P : Params) : FnOK (K0 P) 346 (fnOf (stAt 45) []) := fnOK_of (params := argsOf (stAt 45)) (name := (Str.ofString "seen_type")) (qual := (Str.ofString "seen_type")) (doc := .none) (pm := (.str (Str.ofString "adacore.meanings") 667)) (cdv := (.ref 345)) (ct := .none) (an := none) (oc := .type "function") (od := none) (osl := #[]) (by kernel_rfl) rfl (by kernel_rfl) (by kernel_rfl) (by kernel_rfl)
theorem fn_353 (P : Params) : FnOK (K0 P) 353 (fnOf (stAt 46) []) := fnOK_of (params := argsOf (stAt 46)) (name := (Str.ofString "named_entities")) (qual := (Str.ofString "named_entities")) (doc := .none) (pm := (.str (Str.ofString "adacore.meanings") 667)) (cdv := (.ref 352)) (ct := .none) (an := none) (oc := .type "function") (od := none) (osl := #[]) (by kernel_rfl) rfl (by kernel_rfl) (by kernel_rfl) (by kernel_rfl)
theorem fn_360 (P : Params) : FnOK (K0 P) 360 (fnOf (stAt 48) []) := fnOK_of (params := argsOf (stAt 48)) (name := (Str.ofString "frames_to")) (qual := (Str.ofString "frames_to")) (doc := .none) (pm := (.str (Str.ofString "adacore.opnames") 699)) (cdv := (.ref 359)) (ct := .none) (an := none) (oc := .type "function") (od := none) (osl := #[]) (by kernel_rfl) rfl (by kernel_rfl) (by kernel_rfl) (by kernel_rfl)
theorem fn_367 (P : Params) : FnOK (K0 P) 367 (fnOf (stAt 50) []) := fnOK_of (params := argsOf (stAt 50)) (name := (Str.ofString "refuse")) (qual := (Str.ofString "refuse")) (doc := .none) (pm := (.str (Str.ofString "adacore.rnames") 709)) (cdv := (.ref 366)) (ct := .none) (an := none) (oc := .type "function") (od := none) (osl := #[]) (by kernel_rfl) rfl (by kernel_rfl) (by kernel_rfl) (by kernel_rfl)
theorem fn_374 (P : Params) : FnOK (K0 P) 374 (fnOf (stAt 51) []) := fnOK_of (params := argsOf (stAt 51)) (name := (Str.ofString "type_entity")) (qual := (Str.ofString "type_entity")) (doc := .none) (pm := (.str (Str.ofString "adacore.rnames") 709)) (cdv := (.ref 373)) (ct := .none) (an := none) (oc := .type "function") (od := none) (osl := #[]) (by kernel_rfl) rfl (by kernel_rfl) (by kernel_rfl) (by kernel_rfl)
theorem fn_381 (P : Params) : FnOK (K0 P) 381 (fnOf (stAt 52) []) := fnOK_of (params := argsOf (stAt 52)) (name := (Str.ofString "is_settled")) (qual := (Str.ofString "is_settled")) (doc := .none) (pm := (.str (Str.ofString "adacore.rnames") 709)) (cdv := (.ref 380)) (ct := .none) (an := none) (oc := .type "function") (od := none) (osl := #[]) (by kernel_rfl) rfl (by kernel_rfl) (by kernel_rfl) (by kernel_rfl)
theorem fn_388 (P : Params) : FnOK (K0 P) 388 (fnOf (stAt 53) []) := fnOK_of (params := argsOf (stAt 53)) (name := (Str.ofString "seen_subtype")) (qual := (Str.ofString "seen_subtype")) (doc := .none) (pm := (.str (Str.ofString "adacore.rnames") 709)) (cdv := (.ref 387)) (ct := .none) (an := none) (oc := .type "function") (od := none) (osl := #[]) (by kernel_rfl) rfl (by kernel_rfl) (by kernel_rfl) (by kernel_rfl)
theorem fn_395 (P : Params) : FnOK (K0 P) 395 (fnOf (stAt 54) []) := fnOK_of (params := argsOf (stAt 54)) (name := (Str.ofString "subtype_here")) (qual := (Str.ofString "subtype_here")) (doc := .none) (pm := (.str (Str.ofString "adacore.rnames") 709)) (cdv := (.ref 394)) (ct := .none) (an := none) (oc := .type "function") (od := none) (osl := #[]) (by kernel_rfl) rfl (by kernel_rfl) (by kernel_rfl) (by kernel_rfl)
theorem fn_402 (P : Params) : FnOK (K0 P) 402 (fnOf (stAt 55) []) := fnOK_of (params := argsOf (stAt 55)) (name := (Str.ofString "type_named")) (qual := (Str.ofString "type_named")) (doc := .none) (pm := (.str (Str.ofString "adacore.rnames") 709)) (cdv := (.ref 401)) (ct := .none) (an := none) (oc := .type "function") (od := none) (osl := #[]) (by kernel_rfl) rfl (by kernel_rfl) (by kernel_rfl) (by kernel_rfl)
theorem fn_460 (P : Params) : FnOK (K0 P) 460 (fnOf (stAt 63) []) := fnOK_of (params := argsOf (stAt 63)) (name := (Str.ofString "_law_private")) (qual := (Str.ofString "_law_private")) (doc := .none) (pm := (.str (Str.ofString "law_rg0021_01") 871)) (cdv := (.ref 459)) (ct := .none) (an := none) (oc := .type "function") (od := none) (osl := #[]) (by kernel_rfl) rfl (by kernel_rfl) (by kernel_rfl) (by kernel_rfl)
theorem fn_67 (P : Params) : FnOK (K0 P) 67 (fnOf (inAt 4 0) []) := fnOK_of (params := argsOf (inAt 4 0)) (name := (Str.ofString "__init__")) (qual := (Str.ofString "Entity.__init__")) (doc := .none) (pm := (.str (Str.ofString "adacore.entities") 244)) (cdv := (.ref 66)) (ct := .none) (an := none) (oc := .type "function") (od := none) (osl := #[]) (by kernel_rfl) rfl (by kernel_rfl) (by kernel_rfl) (by kernel_rfl)
theorem fn_124 (P : Params) : FnOK (K0 P) 124 (fnOf (inAt 14 0) []) := fnOK_of (params := argsOf (inAt 14 0)) (name := (Str.ofString "__init__")) (qual := (Str.ofString "Region.__init__")) (doc := .none) (pm := (.str (Str.ofString "adacore.scopes") 338)) (cdv := (.ref 123)) (ct := .none) (an := none) (oc := .type "function") (od := none) (osl := #[]) (by kernel_rfl) rfl (by kernel_rfl) (by kernel_rfl) (by kernel_rfl)
theorem fn_269 (P : Params) : FnOK (K0 P) 269 (fnOf (inAt 36 0) []) := fnOK_of (params := argsOf (inAt 36 0)) (name := (Str.ofString "__init__")) (qual := (Str.ofString "Type.__init__")) (doc := .none) (pm := (.str (Str.ofString "adacore.types") 539)) (cdv := (.ref 268)) (ct := .none) (an := none) (oc := .type "function") (od := none) (osl := #[]) (by kernel_rfl) rfl (by kernel_rfl) (by kernel_rfl) (by kernel_rfl)
theorem fn_290 (P : Params) : FnOK (K0 P) 290 (fnOf (inAt 37 0) []) := fnOK_of (params := argsOf (inAt 37 0)) (name := (Str.ofString "__init__")) (qual := (Str.ofString "Subtype.__init__")) (doc := .none) (pm := (.str (Str.ofString "adacore.types") 539)) (cdv := (.ref 289)) (ct := .none) (an := none) (oc := .type "function") (od := none) (osl := #[]) (by kernel_rfl) rfl (by kernel_rfl) (by kernel_rfl) (by kernel_rfl)
theorem fn_416 (P : Params) : FnOK (K0 P) 416 (fnOf (inAt 57 0) []) := fnOK_of (params := argsOf (inAt 57 0)) (name := (Str.ofString "__init__")) (qual := (Str.ofString "Scope.__init__")) (doc := .none) (pm := (.str (Str.ofString "adacore.context") 767)) (cdv := (.ref 415)) (ct := .none) (an := none) (oc := .type "function") (od := none) (osl := #[]) (by kernel_rfl) rfl (by kernel_rfl) (by kernel_rfl) (by kernel_rfl)
end Mine
namespace Mine
noncomputable def limD : List AV := [.int 32, .int (10 ^ 6), .int 50, .int (10 ^ 4), .int (10 ^ 5), .int 50, .int (10 ^ 6)]
theorem fn_438 (P : Params) : FnOK (K0 P) 438 (fnOf (inAt 59 0) limD) := by
  have hc : fnChk (fnOf (inAt 59 0) limD) (argsOf (inAt 59 0)) = true := by kernel_rfl
  have hl : (K0 P).lookup 438 = some ⟨.type "function", none, .func (fnX (Str.ofString "__init__") (Str.ofString "Limits.__init__") (argsOf (inAt 59 0)) (fnOf (inAt 59 0) limD).body (fnOf (inAt 59 0) limD).scope [] (.ref 431) .none .none (.str (Str.ofString "adacore.limits") 813) none (.ref 437) .none), #[]⟩ := by kernel_rfl
  have hcode : codeIn (K0 P) (.ref 437) (Str.ofString "Limits.__init__") = true := by kernel_rfl
  have h431 : (K0 P).lookup 431 = some ⟨.type "tuple", none, .seq #[.int 32 827, .int 1000000 830, .int 50 831, .int 10000 834, .int 100000 837, .int 50 838, .int 1000000 841] 0, #[]⟩ := by kernel_rfl
  unfold fnChk at hc
  simp only [Bool.and_eq_true, Bool.not_eq_true'] at hc
  obtain ⟨⟨⟨⟨⟨⟨⟨⟨⟨⟨c1, c2⟩, c3⟩, c4⟩, c5⟩, c6⟩, c7⟩, c8⟩, c9⟩, c10⟩, c11⟩ := hc
  refine ⟨⟨_, _, _, _, _, _, _, _, _, _, _, _, _, hl, hcode, fun s ρ as as' vs hK hv hp => ?_⟩, beq_iff_eq.mp c1, c2, c3, fun x hx => ?_, nodupS_ok c5, nodupS_ok c6, fun p hp e => ?_⟩
  · have hlen : as.length + 7 = 8 ∧ as' = as ++ limD := by
      unfold padArgs at hp
      cases hb : Nat.beq (as.length + (fnOf (inAt 59 0) limD).dflt.length) (fnOf (inAt 59 0) limD).params.length with
      | false => rw [hb] at hp; cases hp
      | true =>
        rw [hb] at hp
        have h1 := Nat.eq_of_beq_eq_true hb
        have h2 : (fnOf (inAt 59 0) limD).params.length = 8 := by kernel_rfl
        have h3 : (fnOf (inAt 59 0) limD).dflt = limD := by kernel_rfl
        rw [h2, h3] at h1
        rw [h3] at hp
        cases hp
        exact ⟨h1, rfl⟩
    obtain ⟨h1, rfl⟩ := hlen
    match as, vs, hv with
    | [a], [v], ⟨ha, _⟩ =>
      refine ⟨[v, .int 32 827, .int 1000000 830, .int 50 831, .int 10000 834, .int 100000 837, .int 50 838, .int 1000000 841], ⟨ha, ⟨_, rfl⟩, ⟨_, rfl⟩, ⟨_, rfl⟩, ⟨_, rfl⟩, ⟨_, rfl⟩, ⟨_, rfl⟩, ⟨_, rfl⟩, trivial⟩, ?_⟩
      exact BindsTo.of_defaults (T := 431) rfl (hK _ _ h431) rfl rfl rfl
  · have := List.all_eq_true.mp c4 x hx
    rw [Bool.or_eq_true, Bool.and_eq_true] at this
    rcases this with h | ⟨h1, h2⟩
    · exact .inl (beq_iff_eq.mp h)
    · exact .inr ⟨beq_iff_eq.mp h1, fun k => cells_some (.inl h2)⟩
  · have := List.all_eq_true.mp c7 p hp
    rw [e] at this
    exact beq_iff_eq.mp (by simpa using this)
end Mine
namespace Mine
theorem lookN_mem {α : Type} {a : Nat} {v : α} : ∀ {l : List (Nat × α)}, lookN a l = some v → (a, v) ∈ l
  | (b, u) :: r, h => by
    unfold lookN at h
    by_cases e : a = b
    · subst e; rw [Nat.beq_refl, cond_true] at h; cases h; exact .head _
    · rw [nbeq e, cond_false] at h; exact .tail _ (lookN_mem h)
theorem getN_mem {x : Str} {v : Nat} : ∀ {l : List (Str × Nat)}, getN x l = some v → (x, v) ∈ l
  | (b, u) :: r, h => by
    unfold getN at h
    by_cases e : x = b
    · subst e; rw [sEq_self, cond_true] at h; cases h; exact .head _
    · rw [sEq_no e, cond_false] at h; exact .tail _ (getN_mem h)
theorem map_mem {α β : Type} {f g : α → β} {l : List α} (h : l.map f = l.map g) {x : α} (hx : x ∈ l) : f x = g x := by
  induction l with
  | nil => exact nomatch hx
  | cons y r ih =>
    rw [List.map_cons, List.map_cons, List.cons.injEq] at h
    rcases List.mem_cons.mp hx with rfl | hx
    · exact h.1
    · exact ih h.2 hx
noncomputable def globs : List (Str × Nat) := glob0 ++ glob1 ++ glob2 ++ glob3 ++ glob4 ++ glob5
theorem globs_ok (P : Params) : globs.map (fun p => nsIn (K0 P) mainGlobals p.1) = globs.map (fun p => some (some (.ref p.2))) := by kernel_rfl
theorem len_ok (P : Params) : nsIn (K0 P) mainGlobals (Str.ofString "len") = some none := by kernel_rfl
theorem dict_ok (P : Params) : nsIn (K0 P) mainGlobals (Str.ofString "dict") = some none := by kernel_rfl
noncomputable def attrs6 : List (Nat × List Str) := [(70, atEntity), (127, atRegion), (272, atType), (293, atSubtype), (419, atScope), (441, atLimits)]
theorem attrs_ok (P : Params) : attrs6.all (fun p => p.2.all (attrChk (K0 P) p.1)) = true := by kernel_rfl
theorem keeps_ok (P : Params) : ((fns0 ++ fns1 ++ fns2 ++ fns3 ++ fns4 : List (Nat × Fn)).map (fun (p : Nat × Fn) => p.1) ++ [453, 70, 127, 272, 293, 419, 441]).all (fun a => keepIn (K0 P) (.ref a)) = true := by kernel_rfl
theorem tup_ok (P : Params) : ∃ ob items n, (K0 P).lookup 110 = some ob ∧ ob.cls = .type "tuple" ∧ ob.data = .seq items n ∧ strsOf items.toList [Str.ofString "root", Str.ofString "sub", Str.ofString "task", Str.ofString "protected"] := by
  refine ⟨_, _, _, (by kernel_rfl : (K0 P).lookup 110 = some ⟨(.type "tuple"), none, .seq #[(.str (Str.ofString "root") 340), (.str (Str.ofString "sub") 341), (.str (Str.ofString "task") 342), (.str (Str.ofString "protected") 343)] 0, #[]⟩), rfl, rfl, ⟨rfl, rfl, rfl, rfl, trivial⟩⟩
theorem fns0_ok (P : Params) : ∀ p ∈ fns0, FnOK (K0 P) p.1 p.2 := by
  unfold fns0
  exact List.forall_mem_cons.mpr ⟨fn_81 P, List.forall_mem_cons.mpr ⟨fn_88 P, List.forall_mem_cons.mpr ⟨fn_95 P, List.forall_mem_cons.mpr ⟨fn_102 P, List.forall_mem_cons.mpr ⟨fn_109 P, List.forall_mem_cons.mpr ⟨fn_138 P, List.forall_mem_cons.mpr ⟨fn_145 P, List.forall_mem_cons.mpr ⟨fn_152 P, List.forall_mem_cons.mpr ⟨fn_159 P, List.forall_mem_cons.mpr ⟨fn_164 P, fun _ h => nomatch h⟩⟩⟩⟩⟩⟩⟩⟩⟩⟩
theorem fns1_ok (P : Params) : ∀ p ∈ fns1, FnOK (K0 P) p.1 p.2 := by
  unfold fns1
  exact List.forall_mem_cons.mpr ⟨fn_171 P, List.forall_mem_cons.mpr ⟨fn_178 P, List.forall_mem_cons.mpr ⟨fn_185 P, List.forall_mem_cons.mpr ⟨fn_192 P, List.forall_mem_cons.mpr ⟨fn_199 P, List.forall_mem_cons.mpr ⟨fn_204 P, List.forall_mem_cons.mpr ⟨fn_209 P, List.forall_mem_cons.mpr ⟨fn_216 P, List.forall_mem_cons.mpr ⟨fn_221 P, List.forall_mem_cons.mpr ⟨fn_226 P, fun _ h => nomatch h⟩⟩⟩⟩⟩⟩⟩⟩⟩⟩
theorem fns2_ok (P : Params) : ∀ p ∈ fns2, FnOK (K0 P) p.1 p.2 := by
  unfold fns2
  exact List.forall_mem_cons.mpr ⟨fn_231 P, List.forall_mem_cons.mpr ⟨fn_236 P, List.forall_mem_cons.mpr ⟨fn_241 P, List.forall_mem_cons.mpr ⟨fn_248 P, List.forall_mem_cons.mpr ⟨fn_255 P, List.forall_mem_cons.mpr ⟨fn_304 P, List.forall_mem_cons.mpr ⟨fn_311 P, List.forall_mem_cons.mpr ⟨fn_318 P, List.forall_mem_cons.mpr ⟨fn_325 P, List.forall_mem_cons.mpr ⟨fn_332 P, fun _ h => nomatch h⟩⟩⟩⟩⟩⟩⟩⟩⟩⟩
theorem fns3_ok (P : Params) : ∀ p ∈ fns3, FnOK (K0 P) p.1 p.2 := by
  unfold fns3
  exact List.forall_mem_cons.mpr ⟨fn_339 P, List.forall_mem_cons.mpr ⟨fn_346 P, List.forall_mem_cons.mpr ⟨fn_353 P, List.forall_mem_cons.mpr ⟨fn_360 P, List.forall_mem_cons.mpr ⟨fn_367 P, List.forall_mem_cons.mpr ⟨fn_374 P, List.forall_mem_cons.mpr ⟨fn_381 P, List.forall_mem_cons.mpr ⟨fn_388 P, List.forall_mem_cons.mpr ⟨fn_395 P, List.forall_mem_cons.mpr ⟨fn_402 P, fun _ h => nomatch h⟩⟩⟩⟩⟩⟩⟩⟩⟩⟩
theorem fns4_ok (P : Params) : ∀ p ∈ fns4, FnOK (K0 P) p.1 p.2 := by
  unfold fns4
  exact List.forall_mem_cons.mpr ⟨fn_460 P, List.forall_mem_cons.mpr ⟨fn_67 P, List.forall_mem_cons.mpr ⟨fn_124 P, List.forall_mem_cons.mpr ⟨fn_269 P, List.forall_mem_cons.mpr ⟨fn_290 P, List.forall_mem_cons.mpr ⟨fn_416 P, List.forall_mem_cons.mpr ⟨fn_438 P, fun _ h => nomatch h⟩⟩⟩⟩⟩⟩⟩
theorem tp_ok (prog : Program) (P : Params) : TpOK prog (K0 P) tp where
  glob x v h := by
    have h' : globT x = some v := h
    unfold globT at h'
    split at h'
    · next a ha =>
      cases h'
      exact .inl (map_mem (globs_ok P) (x := (x, a)) (getN_mem ha))
    · cases e : sEqB x (Str.ofString "len") with
      | true =>
        rw [e] at h'; cases h'
        rw [sEq_iff.mp e]
        exact .inr ⟨len_ok P, by kernel_rfl, by decide⟩
      | false =>
        rw [e, cond_false] at h'
        cases e2 : sEqB x (Str.ofString "dict") with
        | true =>
          rw [e2] at h'; cases h'
          rw [sEq_iff.mp e2]
          exact .inr ⟨dict_ok P, by kernel_rfl, by decide⟩
        | false => rw [e2] at h'; cases h'
  attr C a h := by
    have h' : ((lookN C attrs6).getD []).any (sEqB a) = true := h
    cases e : lookN C attrs6 with
    | none => rw [e] at h'; cases h'
    | some l =>
      rw [e] at h'
      obtain ⟨y, hy, hs⟩ := List.any_eq_true.mp h'
      have hy' : a = y := sEq_iff.mp hs
      have := List.all_eq_true.mp (List.all_eq_true.mp (attrs_ok P) _ (lookN_mem e)) y hy
      rw [← hy'] at this
      unfold attrChk at this
      simp only [Bool.and_eq_true] at this
      obtain ⟨⟨⟨⟨⟨a1, a2⟩, a3⟩, a4⟩, a5⟩, a6⟩ := this
      refine ⟨a1, a2, ?_, beq_iff_eq.mp a4, a5, beq_iff_eq.mp a6⟩
      cases hf : findIn (K0 P) (.ref C) a with
      | none => rw [hf] at a3; cases a3
      | some at_ => rw [hf] at a3; exact ⟨at_, rfl, a3⟩
  tups t l h := by
    have h' : lookN t [(110, [Str.ofString "root", Str.ofString "sub", Str.ofString "task", Str.ofString "protected"])] = some l := h
    have := lookN_mem h'
    rcases List.mem_cons.mp this with e | e
    · cases e; exact tup_ok P
    · exact nomatch e
  keep a h := by
    have key : a ∈ (fns0 ++ fns1 ++ fns2 ++ fns3 ++ fns4 : List (Nat × Fn)).map (fun (p : Nat × Fn) => p.1) ++ [453, 70, 127, 272, 293, 419, 441] := by
      have h' : (Nat.beq a 453 || (fnT a).isSome || (clsT a).isSome) = true := h
      rw [Bool.or_eq_true, Bool.or_eq_true] at h'
      rcases h' with (h' | h') | h'
      · have := Nat.eq_of_beq_eq_true h'; subst this; simp
      · obtain ⟨f, hf⟩ := Option.isSome_iff_exists.mp h'
        exact List.mem_append_left _ (List.mem_map.mpr ⟨(a, f), lookN_mem hf, rfl⟩)
      · obtain ⟨i, hi⟩ := Option.isSome_iff_exists.mp h'
        have := lookN_mem hi
        refine List.mem_append_right _ ?_
        have : a ∈ ([(70, 67), (127, 124), (272, 269), (293, 290), (419, 416), (441, 438)] : List (Nat × Nat)).map (·.1) := List.mem_map.mpr ⟨_, this, rfl⟩
        exact .tail _ this
    exact List.all_eq_true.mp (keeps_ok P) a key
theorem top_ok (prog : Program) (w : World) (P : Params) (D : DropOK prog w (K0 P) tp) : TopOK prog w (K0 P) tp where
  T := tp_ok prog P
  fn a f h := by
    have h' : lookN a (fns0 ++ fns1 ++ fns2 ++ fns3 ++ fns4) = some f := h
    have hm := lookN_mem h'
    simp only [List.mem_append] at hm
    rcases hm with (((h | h) | h) | h) | h
    · exact fns0_ok P _ h
    · exact fns1_ok P _ h
    · exact fns2_ok P _ h
    · exact fns3_ok P _ h
    · exact fns4_ok P _ h
  cls C i h := by
    have hm := lookN_mem (show lookN C [(70, 67), (127, 124), (272, 269), (293, 290), (419, 416), (441, 438)] = some i from h)
    have := List.all_eq_true.mp (cls_all P) _ hm
    unfold clsChk at this
    simp only [Bool.and_eq_true] at this
    exact ⟨this.1.1, beq_iff_eq.mp this.1.2, this.2⟩
  drop := D
end Mine
namespace Mine
theorem fn_453 (P : Params) : FnOK (K0 P) 453 (fnOf (stAt 62) []) := fnOK_of (params := argsOf (stAt 62)) (name := (Str.ofString "_law_drop")) (qual := (Str.ofString "_law_drop")) (doc := .none) (pm := (.str (Str.ofString "law_rg0021_01") 871)) (cdv := (.ref 452)) (ct := .none) (an := none) (oc := .type "function") (od := none) (osl := #[]) (by kernel_rfl) rfl (by kernel_rfl) (by kernel_rfl) (by kernel_rfl)
theorem drop_body : ∃ p1 p2 p3 p4 p5 p6 p7 p8 p9 p10 p11 p12 p13 p14 p15 p16 p17 p18 p19 p20 p21 p22 p23 p24 p25 p26 p27 p28 p29 p30 p31 p32 p33 p34 p35 p36 p37 p38 p39 k1 k2 k3 k4 k5, (fnOf (stAt 62) []).body = [
    .Assign [.Name "spot" p1] (.Subscript (.Name "vial" p2) (.Constant (.str "spot") k1 p3) p4) p5,
    .AugAssign (.Subscript (.Name "vial" p6) (.Constant (.str "spot") k2 p7) p8) .Add (.Constant (.int 1) k3 p9) p10,
    .If (.Compare (.Name "spot" p11) [.Lt] [.Call (.Name "len" p12) [.Subscript (.Name "vial" p13) (.Constant (.str "cells") k4 p14) p15] [] p16] p17) [.Return (some (.BinOp (.Subscript (.Subscript (.Name "vial" p18) (.Constant (.str "cells") k5 p19) p20) (.Name "spot" p21) p22) .Mod (.Name "many" p23) p24)) p25] [] p26,
    .Return (some (.BinOp (.IfExp (.Compare (.Name "spot" p27) [.Lt] [.Call (.Name "len" p28) [.Name "_law_rest" p29] [] p30] p31) (.Subscript (.Name "_law_rest" p32) (.Name "spot" p33) p34) (.Name "spot" p35) p36) .Mod (.Name "many" p37) p38)) p39] :=
  ⟨_, _, _, _, _, _, _, _, _, _, _, _, _, _, _, _, _, _, _, _, _, _, _, _, _, _, _, _, _, _, _, _, _, _, _, _, _, _, _, _, _, _, _, _, rfl⟩
end Mine
namespace Mine
section
variable {prog : Program} {w : World} {K : Frag} {tp : Tp} {sc : Scope} {n : Nat} {σ σ' σ₁ : St} {ih : Ih}
/-- a frame, its body told by the caller -/
theorem frame_by {f : Fn} {fa : Addr} (O : FnOK K fa f) {as as' : List AV} {bs : List (Str × AV)} {fl : Fl} {σ₂ : St} (hpad : padArgs f.params.length as f.dflt = some as') (hz : zipP f.params as' = some bs)
    (HB : Snd prog w K f.scope n { (bindCells bs f.scope.names [] { σ with locs := bindLoc f.scope bs, cells := [], comp := false }).2 with cells := (bindCells bs f.scope.names [] { σ with locs := bindLoc f.scope bs, cells := [], comp := false }).1 } σ₂ (execs f.body) (fun ρ g => FRel ρ fl g))
    {A₀ A : Around} {base h₀ : Heap} {outer : List Env} {fenv env : Env} {L : Addr} {m : Str → Option Value} {ρ : List Addr} {led : List (Addr × Obj)} {hh : Heap} {tk : Nat} {z : Shared} {R : Result → Shared → Prop} {vs : List Value}
    (Ro : Room K A₀ A base h₀ outer fenv env L sc n) (hdp : A.depth + 1 + 4 * n < recursionLimit) (hun : A.units + 3 + 40 * n + 100 < cLine) (X : Rel prog w h₀ L env σ ρ m led hh) (hv : LRel ρ as vs)
    (q : ∀ ρ' m' led' h' tk' v, To prog w h₀ L env σ ρ m led { σ₂ with locs := σ.locs, cells := σ.cells, comp := σ.comp } ρ' m' led' h' → VRel ρ' (match fl with | .next => .none | .ret v => v) v → R (.ok (.ret v)) (S z h' tk')) : codeAny (model prog w) A (.call (.ref fa) ⟨vs, []⟩) R (S z hh tk) := by
      obtain ⟨name, qual, params, dV, kV, doc, pm, an, cdv, ct, oc, od, osl, hlk, hcode, hbind⟩ := O.at_
      have XK := Ro.X.keeps X.F.keep
      obtain ⟨us, hus, hB⟩ := hbind (S z hh tk) ρ as as' vs XK hv hpad
      obtain ⟨p, loose, mg, mb, TR⟩ := Ro.T
      have hmem : ∀ x ∈ f.params.zip us, x.1 ∈ f.params := fun x hx => (List.of_mem_zip hx).1
      refine callX_cells (s := S z hh tk) (news := led) Ro.below X.F X.N TR.nolimit Ro.frames Ro.ffr Ro.fkind (XK _ _ hlk) rfl (codeRec_of XK hcode) (by have := Ro.depth; omega) hB ?_ O.cnd ?_ O.co O.gen O.kind
      · intro k x hx
        rcases O.par x.1 (hmem x hx) with h1 | ⟨h1, h2⟩
        · exact .inl h1
        · exact .inr ⟨h1, h2 k⟩
      · intro g L' h₁ tk₁ cells FG F' N' CA B' st lt
        have Nled : News g L' h₁ led := fun p hp => N' p (List.mem_append_right _ hp)
        have hkd : ∀ x, Env.kindOf (envOfC qual f.scope L' fa cdv) x = kindOf f.scope x := fun x => rfl
        have Xs : Rel prog w g L' (envOfC qual f.scope L' fa cdv) { σ with locs := bindLoc f.scope bs, cells := [], comp := false } ρ _ led h₁ :=
          { F := F', N := Nled, nd := X.nd, rln := X.rln, rnd := X.rnd, rled := X.rled, hp := X.hp, low := fun a ha => let ⟨o, ho⟩ := X.low a ha; ⟨o, st _ _ ho⟩
            loc := ⟨rfl, fun x v e => bindL_rel hkd O.pnd hus hz e⟩
            cel := fun x i e => by cases e }
        obtain ⟨pre, accC, hp, hcc, hrest⟩ := cells_rel (prog := prog) (w := w) (env := envOfC qual f.scope L' fa cdv) (ρ := ρ) (bs := bs) (led0 := led) (sc := f.scope) F' (fun x v k e => bindC_rel hkd O.pnd hus hz k e) (names := f.scope.names) (cs := []) (σ := { σ with locs := bindLoc f.scope bs, cells := [], comp := false }) O.cel CA N'
        cases hcc
        obtain ⟨r', h1, h2, h3⟩ := hrest [] (fun p hp => Nat.lt_succ_of_lt (lt p hp)) (by rw [List.append_nil]; exact Xs) (fun x i e => by cases e)
        rw [List.nil_append] at h1 h2
        have X2 : Rel prog w g L' (envOfC qual f.scope L' fa cdv) { (bindCells bs f.scope.names [] { σ with locs := bindLoc f.scope bs, cells := [], comp := false }).2 with cells := (bindCells bs f.scope.names [] { σ with locs := bindLoc f.scope bs, cells := [], comp := false }).1 } (ρ ++ r') _ (cells ++ led) h₁ := { h1 with cel := h2 }
        have R2 : Room K A (A.deeper (envOfC qual f.scope L' fa cdv)) base g (fenv :: outer) (envOfC qual f.scope L' fa cdv) (envOfC qual f.scope L' fa cdv) L' f.scope n :=
          { below := B', frames := Around.frames_deeper Ro.frames, ffr := rfl, fkind := O.kind, esc := rfl, ekind := O.kind, eglob := rfl, ebl := rfl
            depth := hdp
            units := hun
            hand := Ro.hand, X := Ro.X.keeps st, T := ⟨p, loose, mg, mb, TR.keeps st⟩ }
        · refine HB _ _ _ _ _ _ _ _ _ _ _ _ _ _ _ _ R2 X2 fun ρ₂ m₂ led₂ h₂ tk₂ fl' t V => ?_
          refine leaveK_ t.rel.F t.rel.N fun Fb Nb => ?_
          obtain ⟨r4, e4⟩ := t.pre
          have hkeep : ∀ p ∈ led, p.1 ∉ ρ → p ∈ led₂ ∧ p.1 ∉ ρ₂ := fun p hp hr => by
            have hlt := lt p hp
            refine t.keep p (List.mem_append_right _ hp) (fun e => ?_) (Nat.ne_of_lt hlt)
            rcases List.mem_append.mp e with e | e
            · exact hr e
            · exact Nat.lt_irrefl _ (Nat.lt_of_lt_of_le (Nat.lt_succ_of_lt hlt) (h3 _ e))
          have hvv : ∀ v rv, VRel ρ v rv → VRel ρ₂ v rv := fun v rv h => by rw [e4]; exact (h.mono (r := r')).mono
          have tt : To prog w h₀ L env σ ρ m led { σ₂ with locs := σ.locs, cells := σ.cells, comp := σ.comp } ρ₂ m led₂ h₂ :=
            ⟨⟨r' ++ r4, by rw [e4, List.append_assoc]⟩, fun p hp hr _ => hkeep p hp hr, fun _ => rfl, rfl,
              { t.rel with F := Fb, N := Nb, low := X.low, loc := X.loc.of rfl rfl hvv hkeep, cel := fun x i e => let ⟨c, k1, k2⟩ := X.cel x i e; ⟨c, k1, by rw [e4]; exact pre_get (pre_get k2)⟩ }⟩
          cases fl with
          | next => cases V; exact q _ _ _ _ _ _ tt rfl
          | ret u => obtain ⟨rv, rfl, V⟩ := V; exact q _ _ _ _ _ _ tt V
end
end Mine
namespace Mine
theorem ints_get : ∀ {cs : List Int} {vs : List Value} {k : Nat} {c : Int}, intsAre cs vs → cs[k]? = some c → ∃ t, vs[k]? = some (.int c t)
  | c :: r, .int i t :: q, 0, d, h, e => by
    obtain ⟨h1, _⟩ := h
    cases e; subst h1; exact ⟨t, rfl⟩
  | c :: r, .int i t :: q, k + 1, d, h, e => by
    have : r[k]? = some d := by simpa using e
    obtain ⟨t', h'⟩ := ints_get h.2 this
    exact ⟨t', by simpa using h'⟩
theorem ints_len : ∀ {cs : List Int} {vs : List Value}, intsAre cs vs → vs.length = cs.length
  | [], [], _ => rfl
  | c :: r, .int i t :: q, h => by simp [ints_len h.2]
section
variable {prog : Program} {w : World} {K : Frag} {tp : Tp} {sc : Scope} {n : Nat} {σ : St} {A₀ A : Around} {base h₀ : Heap} {outer : List Env} {fenv env : Env} {L : Addr} {m : Str → Option Value} {ρ : List Addr} {led : List (Addr × Obj)} {h : Heap} {tk : Nat} {z : Shared} {E : Value → Shared → Prop}
/-- a key of the vial is read -/
theorem read_key {ra : Addr} {ob : Obj} {kvs : List (Str × Value)} {x key : Str} {v : Value} {kk : Nat} {p1 p2 p3 : Pos} {Q : Value → Shared → Prop} {i : Nat} (T : TpOK prog K tp)
    (R : Room K A₀ A base h₀ outer fenv env L sc n) (X : Rel prog w h₀ L env σ ρ m led h) (hx : load tp sc σ x = some (.ref i)) (g : ρ[i]? = some ra) (hm : (ra, ob) ∈ led) (hd : ob.IsDictOf (PySem.strKind prog w) kvs) (hv : valueAt kvs key = some v) (hdb : (x == ("__debug__" : Str)) = false)
    (q : ∀ k, Q v (S z h k)) : wpAny (model prog w) A (eval (.Subscript (.Name x p1) (.Constant (.str key) kk p2) p3) env) Q E (S z h tk) := by
  refine Subscript_ ?_
  refine wpAny_Name (load_ok (n := n) T hx R X fun u V => ?_) hdb
  obtain ⟨ra', g', rfl⟩ := V
  rw [g] at g'; cases g'
  refine wpAny_Constant_str ?_
  have hD : (S z h (tk + 1)).heap.DictOf (PySem.strKind prog w) ra kvs := kda_dict X.N hm hd
  exact tail_any hD.typeIs slot_dict_getitem.lookup (kdt_getItem (knd := PySem.strKind prog w) (k := key) X.N hm hd (by simp [PySem.strKind, Value.isStrOf]) hv (q _)) rfl
theorem stored_spot {c u v : Value} : stored [(("cells" : Str), c), (("spot" : Str), u)] ("spot" : Str) v = [(("cells" : Str), c), (("spot" : Str), v)] := by
  have e1 : ¬ (("cells" : Str) = ("spot" : Str)) := by decide
  simp [stored, e1]
theorem vial_next {la : Addr} {its : Array Value} {ep k : Nat} {t : Tok} {cs : List Int} {mm r : Int} {ds : List (Int × Int)} {led' : List (Addr × Obj)} {ob' : Obj} (hd : ob'.IsDictOf (PySem.strKind prog w) [(("cells" : Str), .ref la), (("spot" : Str), .int ((k : Int) + 1) t)])
    (h1 : (la, W.listOf its ep) ∈ led') (h2 : la ∉ ρ) (h3 : its.size ≤ 20) (h4 : intsAre cs its.toList) (h5 : Draws cs k ((mm, r) :: ds)) (h6 : k + (((mm, r) :: ds) : List (Int × Int)).length ≤ 100) : VialRel prog w ρ led' ds ob' :=
  ⟨la, its, ep, k + 1, t, cs, by simpa using hd, h1, h2, h3, h4, h5.2, by simp only [List.length_cons] at h6; omega⟩
end
end Mine
namespace Mine
section
variable {prog : Program} {w : World} {K : Frag} {tp : Tp} {sc : Scope} {n : Nat} {σ : St}
/-- a local name of a frame is stored: nothing else changes -/
theorem store_loc {x : Str} {a : AV} {v : Value} {A₀ A : Around} {base h₀ : Heap} {outer : List Env} {fenv env : Env} {L : Addr} {m : Str → Option Value} {ρ : List Addr} {led : List (Addr × Obj)} {h : Heap} {tk : Nat} {z : Shared} {Q : Unit → Shared → Prop} {E : Value → Shared → Prop}
    (hx : kindOf sc x = some .local) (hc : σ.comp = false) (R : Room K A₀ A base h₀ outer fenv env L sc n) (X : Rel prog w h₀ L env σ ρ m led h) (hv : VRel ρ a v)
    (q : ∀ m' h' tk', To prog w h₀ L env σ ρ m led { σ with locs := putL x a σ.locs } ρ m' led h' → Q () (S z h' tk')) : wpAny (model prog w) A (storeName env x v) Q E (S z h tk) := by
  have hk : env.scope.kind = .function := by rw [R.esc]; exact R.ekind
  have hkk : (env.scope.kind == .class || (env.scope.kind == .module && env.locals != env.globals)) = false := by rw [hk]; rfl
  have hx' : env.kindOf x = some .local := (kindOf_eq R.esc x).trans hx
  have hl := X.loc
  unfold LocRel at hl
  rw [hc] at hl
  refine wpAny_storeName_local hx' (m := m) (by rw [hl.1]; exact X.F.ns) (fun h' hn hs => ?_) hkk
  rw [hl.1] at hn hs
  refine q (fun y => if y = x then some v else m y) h' (tk + 1) ⟨⟨[], by simp⟩, fun p a b _ => ⟨a, b⟩, fun e => (by rw [hc] at e; exact nomatch e), rfl, ?_⟩
  refine ⟨X.F.set hn hs, X.N.set hs, X.nd, X.rln, X.rnd, X.rled, X.hp, ?_, X.cel, X.low⟩
  unfold LocRel
  dsimp only
  rw [hc]
  refine ⟨hl.1, fun y u hy => ?_⟩
  rw [getL_putL] at hy
  by_cases ey : y = x
  · rw [if_pos ey] at hy ⊢
    cases hy; exact ⟨v, rfl, hv⟩
  · rw [if_neg ey] at hy ⊢
    exact hl.2 y u hy
/-- the draw's first two statements: spot is read, and made one more -/
theorem drop_two (T : TpOK prog K tp) {i : Nat} {mm r : Int} {ds : List (Int × Int)} {p1 p2 p3 p4 p5 p6 p7 p8 p9 p10 : Pos} {k1 k2 k3 : Nat} (hc : σ.comp = false)
    (hv : getL ("vial" : Str) σ.locs = some (.ref i)) (ho : σ.obj i = some (.vial ((mm, r) :: ds))) (hl : kindOf sc ("vial" : Str) = some .local) (hs : kindOf sc ("spot" : Str) = some .local)
    {A₀ A : Around} {base h₀ : Heap} {outer : List Env} {fenv env : Env} {L : Addr} {m : Str → Option Value} {ρ : List Addr} {led : List (Addr × Obj)} {h : Heap} {tk : Nat} {z : Shared} {E : Value → Shared → Prop} {Q : Flow → Shared → Prop} {rest : List Stmt}
    (R : Room K A₀ A base h₀ outer fenv env L sc n) (X : Rel prog w h₀ L env σ ρ m led h)
    (q : ∀ (ra la : Addr) (its : Array Value) (ep k : Nat) (t : Tok) (cs : List Int) (ob : Obj) m' led' h' tk', To prog w h₀ L env σ ρ m led { σ.set i (.vial ds) with locs := putL ("spot" : Str) (.int (k : Int)) σ.locs } ρ m' led' h' → ρ[i]? = some ra → (ra, ob) ∈ led' → ob.IsDictOf (PySem.strKind prog w) [(("cells" : Str), .ref la), (("spot" : Str), .int ((k : Int) + 1) t)] →
      (la, W.listOf its ep) ∈ led' → its.size ≤ 20 → intsAre cs its.toList → r = dropOf cs k mm → k < 100 → wpAny (model prog w) A (execs rest env) Q E (S z h' tk')) :
    wpAny (model prog w) A (execs (.Assign [.Name ("spot" : Str) p1] (.Subscript (.Name ("vial" : Str) p2) (.Constant (.str ("spot" : Str)) k1 p3) p4) p5 :: .AugAssign (.Subscript (.Name ("vial" : Str) p6) (.Constant (.str ("spot" : Str)) k2 p7) p8) .Add (.Constant (.int 1) k3 p9) p10 :: rest) env) Q E (S z h tk) := by
  obtain ⟨a, ob, g, hm, lo, la, its, ep, k, t, cs, hd, hla, hnr, hsz, hin, hdr, hlen⟩ := X.hp i _ ho
  have ld : ∀ σ' : St, getL ("vial" : Str) σ'.locs = some (.ref i) → load tp sc σ' ("vial" : Str) = some (.ref i) := fun σ' e => by
    unfold load; rw [hl]; exact e
  refine wpAny_execs_cons (wpAny_Assign_Name ?_ rfl)
  refine read_key T R X (ld σ hv) g hm hd (by rfl) (by decide) fun k' => ?_
  refine store_loc (a := .int (k : Int)) hs hc R X ⟨t, rfl⟩ fun m1 h1 tk1 t1 => ?_
  refine wpAny_execs_cons (wpAny_AugAssign_Subscript_any ?_)
  refine wpAny_Name (load_ok (n := n) (a := .ref i) T (ld _ ?_) R t1.rel fun u V => ?_) (by decide)
  · show getL _ (putL _ _ σ.locs) = _
    rw [getL_putL, if_neg (by decide)]; exact hv
  obtain ⟨ra', g', rfl⟩ := V
  rw [g] at g'; cases g'
  refine wpAny_Constant_str ?_
  refine kdt_getItem (knd := PySem.strKind prog w) (k := ("spot" : Str)) t1.rel.N hm hd (by simp [PySem.strKind, Value.isStrOf]) (by rfl) ?_
  refine wpAny_Constant_int ?_
  refine PySem.P.iadd_int ?_
  refine kda_set (knd := PySem.strKind prog w) (k := ("spot" : Str)) t1.rel.F t1.rel.N (updF_of t1.rel.nd hm) hd (by simp [PySem.strKind, Value.isStrOf]) (by simp [sizeLine]) fun h' o'' F' N' hd' => ?_
  rw [stored_spot] at hd'
  have hne : la ≠ a := fun e => hnr (e ▸ mem_rho g)
  have hla' : (la, W.listOf its ep) ∈ setN a o'' led := setN_other hne hla
  have t2 := t1.rel.put (i := i) (o := .vial ((mm, r) :: ds)) (o' := .vial ds) ho g hm F' N' fun _ => ⟨lo, vial_next hd' hla' hnr hsz hin hdr hlen⟩
  refine q a la its ep k _ cs o'' _ _ _ _ (t1.trans t2) g (setN_here hm) hd' hla' hsz hin hdr.1 ?_
  simp only [List.length_cons] at hlen; omega
end
end Mine
namespace Mine
section
variable {prog : Program} {w : World} {K : Frag} {tp : Tp} {sc : Scope} {n : Nat} {σ : St} {A₀ A : Around} {base h₀ : Heap} {outer : List Env} {fenv env : Env} {L : Addr} {m : Str → Option Value} {ρ : List Addr} {led : List (Addr × Obj)} {h : Heap} {tk : Nat} {z : Shared} {E : Value → Shared → Prop}
theorem len_call (T : TpOK prog K tp) {e : PySem.Expr} {p1 pos : Pos} {Q : Value → Shared → Prop} (hs : starless [e] = true) (hx : load tp sc σ ("len" : Str) = some (.top (.builtin "len")))
    (R : Room K A₀ A base h₀ outer fenv env L sc n) (X : Rel prog w h₀ L env σ ρ m led h)
    (q : ∀ tk, wpAny (model prog w) A (eval e env) (fun v s => K.In s.heap ∧ wpAny (model prog w) A (PySem.call (.builtin "len") [v]) Q E s) E (S z h tk)) :
    wpAny (model prog w) A (eval (.Call (.Name ("len" : Str) p1) [e] [] pos) env) Q E (S z h tk) := by
  refine Call_ ?_ rfl
  refine wpAny_Name (load_ok (n := n) T hx R X fun u V => ?_) (by decide)
  cases V
  refine callWith_any (h₀ := h₀) (.inr fun a e => nomatch e) hs (R.X.keeps X.F.keep) ?_
  refine spliced_more ?_ (star_cons hs env)
  refine wpAny_mono (q _) (fun v s hq => ?_) fun _ _ x => x
  exact spliced_none hq
noncomputable def restI : List Int := [1, 1, 0, 1, 1, 1]
theorem rest_get {k : Nat} {c : Int} {m : Int} {cs : List Int} (hk : cs.length ≤ k) (e : restI[k]? = some c) : dropOf cs k m = c.fmod m := by
  unfold dropOf
  rw [List.getElem?_eq_none hk]
  match k, e with
  | 0, e | 1, e | 2, e | 3, e | 4, e | 5, e => cases e; rfl
  | k + 6, e => exact nomatch e
theorem rest_none {k : Nat} {m : Int} {cs : List Int} (hk : cs.length ≤ k) (e : 6 ≤ k) : dropOf cs k m = (k : Int).fmod m := by
  unfold dropOf
  rw [List.getElem?_eq_none hk]
  match k, e with
  | k + 6, e => rfl
theorem drop_rest (T : TpOK prog K tp) {i k : Nat} {mm : Int} {ra la ta : Addr} {its tits : Array Value} {ep : Nat} {t : Tok} {cs : List Int} {ob : Obj} {v2 : Value} {p11 p12 p13 p14 p15 p16 p17 p18 p19 p20 p21 p22 p23 p24 p25 p26 p27 p28 p29 p30 p31 p32 p33 p34 p35 p36 p37 p38 p39 : Pos} {k4 k5 : Nat} {Q : Flow → Shared → Prop}
    (hlen : load tp sc σ ("len" : Str) = some (.top (.builtin "len"))) (hrest : load tp sc σ ("_law_rest" : Str) = some (.top (.ref ta))) (ht : IsTup h ta tits) (hti : intsAre restI tits.toList)
    (hvial : load tp sc σ ("vial" : Str) = some (.ref i)) (hspot : load tp sc σ ("spot" : Str) = some (.int (k : Int))) (hmany : load tp sc σ ("many" : Str) = some (.int mm)) (hm0 : mm ≠ 0)
    (R : Room K A₀ A base h₀ outer fenv env L sc n) (X : Rel prog w h₀ L env σ ρ m led h) (g : ρ[i]? = some ra) (hm : (ra, ob) ∈ led) (hd : ob.IsDictOf (PySem.strKind prog w) [(("cells" : Str), .ref la), (("spot" : Str), v2)])
    (hla : (la, W.listOf its ep) ∈ led) (hsz : its.size ≤ 20) (hin : intsAre cs its.toList) (hk : k < 100)
    (q : ∀ t' tk', Q (.ret (.int (dropOf cs k mm) t')) (S z h tk')) :
    wpAny (model prog w) A (execs [.If (.Compare (.Name ("spot" : Str) p11) [.Lt] [.Call (.Name ("len" : Str) p12) [.Subscript (.Name ("vial" : Str) p13) (.Constant (.str ("cells" : Str)) k4 p14) p15] [] p16] p17) [.Return (some (.BinOp (.Subscript (.Subscript (.Name ("vial" : Str) p18) (.Constant (.str ("cells" : Str)) k5 p19) p20) (.Name ("spot" : Str) p21) p22) .Mod (.Name ("many" : Str) p23) p24)) p25] [] p26,
    .Return (some (.BinOp (.IfExp (.Compare (.Name ("spot" : Str) p27) [.Lt] [.Call (.Name ("len" : Str) p28) [.Name ("_law_rest" : Str) p29] [] p30] p31) (.Subscript (.Name ("_law_rest" : Str) p32) (.Name ("spot" : Str) p33) p34) (.Name ("spot" : Str) p35) p36) .Mod (.Name ("many" : Str) p37) p38)) p39] env) Q E (S z h tk) := by
  have hl := list_at X.N hla
  have hcl : its.size = cs.length := by rw [← ints_len hin, Array.length_toList]
  have htl : tits.size = 6 := by rw [← Array.length_toList, ints_len hti]; rfl
  have many : ∀ {v : Int} {tv : Tok} {tk : Nat} {p : Pos} {Q' : Value → Shared → Prop}, (∀ t' tk', Q' (.int (v.fmod mm) t') (S z h tk')) → wpAny (model prog w) A (eval (.Name ("many" : Str) p) env) (fun b s => wpAny (model prog w) A (binaryOp .Mod (.int v tv) b) Q' E s) E (S z h tk) := by
    intro v tv tk p Q' q'
    refine wpAny_Name (load_ok (n := n) T hmany R X fun u V => ?_) (by decide)
    obtain ⟨t', rfl⟩ := V
    exact PyProof.Rows.mod_int hm0 (q' _ _)
  refine wpAny_execs_cons (wpAny_If (wpAny_isTrue_Compare1 ?_ rfl))
  refine wpAny_Name (load_ok (n := n) T hspot R X fun u V => ?_) (by decide)
  obtain ⟨t1, rfl⟩ := V
  refine len_call T rfl hlen R X fun tk1 => ?_
  refine read_key T R X hvial g hm hd (by rfl) (by decide) fun k' => ⟨R.X.keeps X.F.keep, ?_⟩
  refine KM.len_K (s := S z h k') X.N hla rfl (by omega) ?_
  refine PySem.P.lt_int (wpAny_truthy_bool ?_)
  by_cases hlt : (k : Int) < (its.size : Int)
  · rw [decide_eq_true hlt, if_pos rfl]
    refine wpAny_execs_cons (wpAny_Return_some (wpAny_BinOp (Subscript_ ?_)))
    refine read_key T R X hvial g hm hd (by rfl) (by decide) fun k' => ?_
    refine wpAny_Name (load_ok (n := n) T hspot R X fun u V => ?_) (by decide)
    obtain ⟨t2, rfl⟩ := V
    have hk2 : k < cs.length := by omega
    obtain ⟨t3, h3⟩ := ints_get hin (List.getElem?_eq_getElem hk2)
    refine tail_any hl.typeIs slot_list_getitem.lookup (wpAny_getItem_list hl (by omega) (by omega) (by simpa using h3) ?_) rfl
    have : dropOf cs k mm = (cs[k]).fmod mm := by unfold dropOf; rw [List.getElem?_eq_getElem hk2]
    rw [this] at q
    exact many q
  · rw [decide_eq_false hlt, if_neg (by decide)]
    have hk2 : cs.length ≤ k := by omega
    refine wpAny_execs_nil ?_
    refine wpAny_execs_cons (wpAny_Return_some (wpAny_BinOp (wpAny_IfExp (wpAny_isTrue_Compare1 ?_ rfl))))
    refine wpAny_Name (load_ok (n := n) T hspot R X fun u V => ?_) (by decide)
    obtain ⟨t1, rfl⟩ := V
    refine len_call T rfl hlen R X fun tk1 => ?_
    refine wpAny_Name (load_ok (n := n) T hrest R X fun u V => ?_) (by decide)
    cases V
    refine ⟨R.X.keeps X.F.keep, ?_⟩
    refine PyProof.Rows.len_tuple ht (by omega) ?_
    rw [htl]
    refine PySem.P.lt_int (wpAny_truthy_bool ?_)
    by_cases hlt2 : (k : Int) < ((6 : Nat) : Int)
    · rw [decide_eq_true hlt2, if_pos rfl]
      refine Subscript_ ?_
      refine wpAny_Name (load_ok (n := n) T hrest R X fun u V => ?_) (by decide)
      cases V
      refine wpAny_Name (load_ok (n := n) T hspot R X fun u V => ?_) (by decide)
      obtain ⟨t2, rfl⟩ := V
      have hk3 : k < restI.length := by show k < 6; omega
      obtain ⟨t3, h3⟩ := ints_get hti (List.getElem?_eq_getElem hk3)
      have h3' : tits[k]? = some (.int restI[k] t3) := by simpa using h3
      have hj : seqIndex? (k : Int) tits.size = some k := by
        rw [htl]
        have h1 : ¬ (k : Int) < 0 := by omega
        unfold seqIndex?
        simp [h1]; omega
      refine tail_any ht.typeIs slot_tuple_getitem.lookup (getItem_tuple ht (by omega) (by omega) hj h3' ?_) rfl
      rw [rest_get hk2 (List.getElem?_eq_getElem hk3)] at q
      exact many q
    · rw [decide_eq_false hlt2, if_neg (by decide)]
      refine wpAny_Name (load_ok (n := n) T hspot R X fun u V => ?_) (by decide)
      obtain ⟨t2, rfl⟩ := V
      rw [rest_none hk2 (by omega)] at q
      exact many q
end
end Mine
namespace Mine
theorem bindCells_none {bs : List (Str × AV)} : ∀ {names : List (Str × NameKind)} {cs : List (Str × Nat)} {σ : St}, names.all (fun p => !(p.2 == .cell)) = true → bindCells bs names cs σ = (cs, σ)
  | [], _, _, _ => rfl
  | (x, k) :: r, cs, σ, h => by
    rw [List.all_cons, Bool.and_eq_true] at h
    have hk : ¬ (k == NameKind.cell) = true := by
      have := h.1; rw [Bool.not_eq_true'] at this; rw [show (k == NameKind.cell) = false from this]; decide
    show (if (k == NameKind.cell) = true then _ else _) = _
    rw [if_neg hk]
    exact bindCells_none h.2
theorem rest_tup (P : Params) : ∃ ob items n, (K0 P).lookup 446 = some ob ∧ ob.cls = .type "tuple" ∧ ob.data = .seq items n ∧ intsAre restI items.toList :=
  ⟨o_446 P, #[.int 1 873, .int 1 874, .int 0 875, .int 1 876, .int 1 877, .int 1 878], 0, by kernel_rfl, by kernel_rfl, by kernel_rfl, ⟨rfl, rfl, rfl, rfl, rfl, rfl, trivial⟩⟩
noncomputable def dropF : Fn := fnOf (stAt 62) []
theorem drop_names : (kindOf dropF.scope ("vial" : Str), kindOf dropF.scope ("many" : Str), kindOf dropF.scope ("spot" : Str), kindOf dropF.scope ("len" : Str), kindOf dropF.scope ("_law_rest" : Str), dropF.params, dropF.dflt.length, dropF.scope.names.all (fun p => !(p.2 == .cell))) =
  (some .local, some .local, some .local, some .globalImplicit, some .globalImplicit, [("vial" : Str), ("many" : Str)], 0, true) := by kernel_rfl
theorem glob_names : (globT ("len" : Str), globT ("_law_rest" : Str)) = (some (.builtin "len"), some (.ref 446)) := by kernel_rfl
section
variable {prog : Program} {w : World} {K : Frag} {tp : Tp} {sc : Scope} {n : Nat} {σ σ' : St} {h₀ h' : Heap} {env : Env} {L : Addr} {m m' : Str → Option Value} {ρ ρ' : List Addr} {led led' : List (Addr × Obj)}
/-- a local name is forgotten -/
theorem To.forget {x : Str} {a : AV} (hx : getL x σ'.locs = none) (hc : σ'.comp = false) (t : To prog w h₀ L env σ ρ m led { σ' with locs := putL x a σ'.locs } ρ' m' led' h') : To prog w h₀ L env σ ρ m led σ' ρ' m' led' h' := by
  refine { t with rel := { t.rel with loc := ?_ } }
  have hl := t.rel.loc
  unfold LocRel at hl ⊢
  dsimp only at hl
  rw [hc] at hl ⊢
  refine ⟨hl.1, fun y v hy => hl.2 y v ?_⟩
  rw [getL_putL]
  by_cases e : y = x
  · subst e; rw [hx] at hy; cases hy
  · rw [if_neg e]; exact hy
end
theorem drop_ok (prog : Program) (w : World) (P : Params) : DropOK prog w (K0 P) tp := by
  intro sc n σ i k r ds A₀ A base h₀ outer fenv env L m ρ led h tk z Q E ra t R X hk ho g q
  have hm0 : k ≠ 0 := fun e => hk (by simp [e])
  have hn := drop_names
  simp only [Prod.mk.injEq] at hn
  obtain ⟨n1, n2, n3, n4, n5, n6, n7, n8⟩ := hn
  have hg := glob_names
  simp only [Prod.mk.injEq] at hg
  refine wpAny_call ?_
  have hbl : bindLoc dropF.scope [(("vial" : Str), .ref i), (("many" : Str), .int k)] = [(("vial" : Str), .ref i), (("many" : Str), .int k)] := by
    simp only [bindLoc, n1, n2]
  have hpad : padArgs dropF.params.length [.ref i, .int k] dropF.dflt = some [.ref i, .int k] := by
    rw [n6, List.length_eq_zero_iff.mp n7]; rfl
  refine frame_by (K := K0 P) (σ := σ) (n := n) (f := dropF) (fn_453 P) (as := [.ref i, .int k]) (as' := [.ref i, .int k]) (bs := [(("vial" : Str), .ref i), (("many" : Str), .int k)]) (fl := .ret (.int r))
    (σ₂ := { (σ.set i (.vial ds)) with locs := [(("vial" : Str), .ref i), (("many" : Str), .int k)], cells := [], comp := false }) hpad (by rw [n6]; rfl) ?_ R.weak (by have := R.depth; omega) (by have := R.units; omega) X ⟨⟨ra, g, rfl⟩, ⟨t, rfl⟩, trivial⟩ ?_
  · rw [bindCells_none n8, hbl]
    intro A₀ A base h₀ outer fenv env L m ρ led h tk z Q E R X q
    obtain ⟨p1, p2, p3, p4, p5, p6, p7, p8, p9, p10, p11, p12, p13, p14, p15, p16, p17, p18, p19, p20, p21, p22, p23, p24, p25, p26, p27, p28, p29, p30, p31, p32, p33, p34, p35, p36, p37, p38, p39, k1, k2, k3, k4, k5, hb⟩ := drop_body
    have hb' : dropF.body = _ := hb
    rw [hb']
    have T := tp_ok prog P
    refine drop_two (σ := { locs := [(("vial" : Str), .ref i), (("many" : Str), .int k)], cells := [], comp := false, heap := σ.heap, nxt := σ.nxt }) (i := i) (mm := k) (r := r) (ds := ds) T rfl rfl ho n1 n3 R X fun ra la its ep kk t' cs ob m' led' h' tk' tt g hm hd hla hsz hin hdr hlt => ?_
    obtain ⟨ob2, items, nn, hlk, hcls, hdat, hints⟩ := rest_tup P
    have hlk' := R.X.keeps tt.rel.F.keep _ _ hlk
    refine drop_rest (t := t') (i := i) (k := kk) (mm := k) (cs := cs) T ?_ ?_ ⟨ob2, hlk', hcls, nn, hdat⟩ hints ?_ ?_ ?_ hm0 R tt.rel g hm hd hla hsz hin hlt fun t2 tk2 => ?_
    · unfold load; rw [n4]; exact congrArg (Option.map AV.top) hg.1
    · unfold load; rw [n5]; exact congrArg (Option.map AV.top) hg.2
    · unfold load; rw [n1]; rfl
    · unfold load; rw [n3]; rfl
    · unfold load; rw [n2]; rfl
    · refine q _ _ _ _ _ _ (tt.forget (x := ("spot" : Str)) (by rfl) rfl) ⟨_, rfl, t2, ?_⟩
      rw [hdr]
  · intro ρ' m' led' h' tk' v tt hv
    obtain ⟨t', rfl⟩ := hv
    exact q _ _ _ _ _ _ tt
end Mine
namespace Mine
noncomputable def sL (x : String) : Str := Str.ofString x
noncomputable def aN : Str := Str.ofString "a"
noncomputable def bN : Str := Str.ofString "b"
noncomputable def cN : Str := Str.ofString "c"
noncomputable def dN : Str := Str.ofString "d"
noncomputable def abcd : List AK := [.str aN, .str bN, .str cN, .str dN]
noncomputable def namesS : List Str := [Str.ofString "vial", Str.ofString "root", Str.ofString "q", Str.ofString "s", Str.ofString "told_s", Str.ofString "p", Str.ofString "t", Str.ofString "told_t"]
noncomputable def rootA : List Str := [Str.ofString "kind", Str.ofString "parent", Str.ofString "root", Str.ofString "made", Str.ofString "number", Str.ofString "level", Str.ofString "part", Str.ofString "names", Str.ofString "order", Str.ofString "uses", Str.ofString "use_types", Str.ofString "counts", Str.ofString "type_homes"]
noncomputable def regA : List Str := [Str.ofString "kind", Str.ofString "parent", Str.ofString "root", Str.ofString "number", Str.ofString "level", Str.ofString "part", Str.ofString "names", Str.ofString "order", Str.ofString "uses", Str.ofString "use_types"]
noncomputable def ownA : List Str := [Str.ofString "kind", Str.ofString "key", Str.ofString "data", Str.ofString "region", Str.ofString "is_ready", Str.ofString "is_overridden"]
noncomputable def typA : List Str := [Str.ofString "kind", Str.ofString "number", Str.ofString "parent", Str.ofString "designated", Str.ofString "is_private"]
noncomputable def typD : List Str := [Str.ofString "kind", Str.ofString "number", Str.ofString "parent", Str.ofString "designated", Str.ofString "is_private", Str.ofString "low", Str.ofString "high", Str.ofString "literals", Str.ofString "modulus", Str.ofString "small", Str.ofString "index", Str.ofString "component", Str.ofString "is_constrained", Str.ofString "discriminants", Str.ofString "components", Str.ofString "variant", Str.ofString "is_constant", Str.ofString "is_tagged", Str.ofString "is_limited", Str.ofString "operations"]
noncomputable def typB : List Str := [Str.ofString "kind", Str.ofString "number", Str.ofString "parent", Str.ofString "is_private"]
noncomputable def subA : List Str := [Str.ofString "type", Str.ofString "constraint"]
noncomputable def entA : List Str := [Str.ofString "kind", Str.ofString "subtype", Str.ofString "full", Str.ofString "home"]
/-- the things that all the rest speaks of; n bounds what grows -/
noncomputable def baseSp (n : Nat) (s : List Str) (ops : List (Nat × Sp)) : List (Nat × Sp) := [(0, .same), (1, .attrs rootA n), (2, .same), (3, .dict (abcd ++ [.str (Str.ofString "q"), .str (Str.ofString "p")]) n), (4, .list 0 n), (5, .same), (6, .same), (7, .dict abcd n), (8, .dict [.int 71, .int 72] n),
  (9, .attrs ownA n), (10, .same), (17, .same), (18, .attrs regA n), (19, .same), (20, .dict (abcd ++ [.str (Str.ofString "q"), .str (Str.ofString "p")]) n), (21, .list 1 n), (22, .same), (23, .same),
  (26, .attrs s n), (27, .same), (34, .attrs subA n), (35, .same), (36, .attrs entA n), (37, .same), (45, .same),
  (47, .attrs ownA n), (48, .same), (55, .same), (56, .attrs regA n), (57, .same), (58, .dict (abcd ++ [.str (Str.ofString "q"), .str (Str.ofString "p")]) n), (59, .list 1 n), (60, .same), (61, .same),
  (64, .attrs typA n), (65, .same), (72, .attrs subA n), (73, .same), (74, .attrs entA n), (75, .same), (83, .same)] ++ ops
noncomputable def sMore : List (Str × AV) := [(Str.ofString "low", .none), (Str.ofString "high", .none), (Str.ofString "literals", .ref 28), (Str.ofString "modulus", .int 0), (Str.ofString "small", .ref 29), (Str.ofString "index", .ref 30), (Str.ofString "component", .none), (Str.ofString "is_constrained", .bool true), (Str.ofString "discriminants", .ref 31), (Str.ofString "components", .ref 32), (Str.ofString "variant", .none), (Str.ofString "is_constant", .bool false), (Str.ofString "is_tagged", .bool false), (Str.ofString "is_limited", .bool false), (Str.ofString "operations", .ref 33)]
noncomputable def ops0 : List (Nat × AO) := [(33, .dict false true [] 0)]
noncomputable def baseH (n : Nat) (M : Int) (ds : List (Int × Int)) (r0 r1 r2 r3 q0 q1 q2 q3 p0 p1 p2 p3 c0 c1 c2 c3 : Option AV) (dS fS dT fT : AV) (sA : List (Str × AV)) : List (Nat × AO) := [(0, .vial ds),
  (1, .attrs [(Str.ofString "kind", .str (Str.ofString "root")), (Str.ofString "parent", .none), (Str.ofString "root", .ref 2), (Str.ofString "made", .int M), (Str.ofString "number", .int 1), (Str.ofString "level", .int 0), (Str.ofString "part", .str (Str.ofString "body")), (Str.ofString "names", .ref 3), (Str.ofString "order", .ref 4), (Str.ofString "uses", .ref 5), (Str.ofString "use_types", .ref 6), (Str.ofString "counts", .ref 7), (Str.ofString "type_homes", .ref 8)] n),
  (2, .inst 127 1),
  (3, .dict false false [(.str aN, r0), (.str bN, r1), (.str cN, r2), (.str dN, r3), (.str (Str.ofString "q"), some (.ref 17)), (.str (Str.ofString "p"), some (.ref 55))] n),
  (4, .list [] false n),
  (5, .list [] true 0),
  (6, .list [] true 0),
  (7, .dict false false [(.str aN, c0), (.str bN, c1), (.str cN, c2), (.str dN, c3)] n),
  (8, .dict true false [(.int 71, some (.ref 45)), (.int 72, some (.ref 83))] n),
  (9, .attrs [(Str.ofString "kind", .str (Str.ofString "package")), (Str.ofString "key", .none), (Str.ofString "data", .none), (Str.ofString "region", .ref 19), (Str.ofString "is_ready", .bool true), (Str.ofString "is_overridden", .bool false)] n),
  (10, .inst 70 9),
  (17, .list [.ref 10] true 1),
  (18, .attrs [(Str.ofString "kind", .str (Str.ofString "package")), (Str.ofString "parent", .ref 2), (Str.ofString "root", .ref 2), (Str.ofString "number", .int 3), (Str.ofString "level", .int 0), (Str.ofString "part", .str (Str.ofString "visible")), (Str.ofString "names", .ref 20), (Str.ofString "order", .ref 21), (Str.ofString "uses", .ref 22), (Str.ofString "use_types", .ref 23)] n),
  (19, .inst 127 18),
  (20, .dict false false [(.str aN, q0), (.str bN, q1), (.str cN, q2), (.str dN, q3), (.str (Str.ofString "q"), none), (.str (Str.ofString "p"), none)] n),
  (21, .list [.ref 37] false n),
  (22, .list [] true 0),
  (23, .list [] true 0),
  (26, .attrs ([(Str.ofString "kind", .str (Str.ofString "private")), (Str.ofString "number", .int 71), (Str.ofString "parent", .none), (Str.ofString "designated", dS), (Str.ofString "is_private", .bool true)] ++ sA) n),
  (27, .inst 272 26),
  (34, .attrs [(Str.ofString "type", .ref 27), (Str.ofString "constraint", .none)] n),
  (35, .inst 293 34),
  (36, .attrs [(Str.ofString "kind", .str (Str.ofString "type")), (Str.ofString "subtype", .ref 35), (Str.ofString "full", fS), (Str.ofString "home", .ref 19)] n),
  (37, .inst 70 36),
  (45, .tup [.ref 19, .str (Str.ofString "visible")]),
  (47, .attrs [(Str.ofString "kind", .str (Str.ofString "package")), (Str.ofString "key", .none), (Str.ofString "data", .none), (Str.ofString "region", .ref 57), (Str.ofString "is_ready", .bool true), (Str.ofString "is_overridden", .bool false)] n),
  (48, .inst 70 47),
  (55, .list [.ref 48] true 1),
  (56, .attrs [(Str.ofString "kind", .str (Str.ofString "package")), (Str.ofString "parent", .ref 2), (Str.ofString "root", .ref 2), (Str.ofString "number", .int 6), (Str.ofString "level", .int 0), (Str.ofString "part", .str (Str.ofString "visible")), (Str.ofString "names", .ref 58), (Str.ofString "order", .ref 59), (Str.ofString "uses", .ref 60), (Str.ofString "use_types", .ref 61)] n),
  (57, .inst 127 56),
  (58, .dict false false [(.str aN, p0), (.str bN, p1), (.str cN, p2), (.str dN, p3), (.str (Str.ofString "q"), none), (.str (Str.ofString "p"), none)] n),
  (59, .list [.ref 75] false n),
  (60, .list [] true 0),
  (61, .list [] true 0),
  (64, .attrs [(Str.ofString "kind", .str (Str.ofString "private")), (Str.ofString "number", .int 72), (Str.ofString "parent", .none), (Str.ofString "designated", dT), (Str.ofString "is_private", .bool true)] n),
  (65, .inst 272 64),
  (72, .attrs [(Str.ofString "type", .ref 65), (Str.ofString "constraint", .none)] n),
  (73, .inst 293 72),
  (74, .attrs [(Str.ofString "kind", .str (Str.ofString "type")), (Str.ofString "subtype", .ref 73), (Str.ofString "full", fT), (Str.ofString "home", .ref 57)] n),
  (75, .inst 70 74),
  (83, .tup [.ref 57, .str (Str.ofString "visible")])]
noncomputable def locs0 : List (Str × AV) := [(Str.ofString "vial", .ref 0), (Str.ofString "root", .ref 2), (Str.ofString "q", .ref 19), (Str.ofString "s", .ref 27), (Str.ofString "told_s", .ref 37), (Str.ofString "p", .ref 57), (Str.ofString "t", .ref 65), (Str.ofString "told_t", .ref 75)]
/-- before the first choice -/
noncomputable def B0 (ds : List (Int × Int)) : St := ⟨locs0, [], false, baseH 100 7 ds none none none none none none none none none none none none none none none none .none .none .none .none sMore ++ ops0, 85⟩
noncomputable def cfgS (a : Nat) : List (Nat × AO) := match a with
  | 0 => []
  | _ => [(85, .attrs [(Str.ofString "kind", .str (Str.ofString "int")), (Str.ofString "number", .int 71), (Str.ofString "parent", .none), (Str.ofString "is_private", .bool false)] 27), (86, .inst 272 85), (93, .attrs [(Str.ofString "type", .ref 86), (Str.ofString "constraint", .none)] 2), (94, .inst 293 93)]
noncomputable def cfgSp (a : Nat) : List (Nat × Sp) := match a with
  | 0 => []
  | _ => [(85, .attrs typB 0), (86, .same), (93, .attrs subA 0), (94, .same)]
noncomputable def valS (a : Nat) : AV := match a with | 0 => .none | _ => .ref 94
noncomputable def B1 (ds : List (Int × Int)) (dS fS : AV) (T : List (Nat × AO)) : St := ⟨locs0, [], false, baseH 110 7 ds none none none none none none none none none none none none none none none none dS fS .none .none sMore ++ (ops0 ++ T), 95⟩
noncomputable def cfgT (y : Nat) : List (Nat × AO) := match y with
  | 0 => []
  | 1 => [(95, .attrs [(Str.ofString "kind", .str (Str.ofString "private")), (Str.ofString "number", .int 72), (Str.ofString "parent", .ref 27), (Str.ofString "is_private", .bool false)] 42), (96, .inst 272 95), (104, .attrs [(Str.ofString "type", .ref 96), (Str.ofString "constraint", .none)] 2), (105, .inst 293 104)]
  | _ => [(95, .attrs [(Str.ofString "kind", .str (Str.ofString "int")), (Str.ofString "number", .int 72), (Str.ofString "parent", .none), (Str.ofString "is_private", .bool false)] 27), (96, .inst 272 95), (103, .attrs [(Str.ofString "type", .ref 96), (Str.ofString "constraint", .none)] 2), (104, .inst 293 103)]
noncomputable def cfgTp (y : Nat) : List (Nat × Sp) := match y with
  | 0 => []
  | 1 => [(95, .attrs typB 0), (96, .same), (104, .attrs subA 0), (105, .same)]
  | _ => [(95, .attrs typB 0), (96, .same), (103, .attrs subA 0), (104, .same)]
noncomputable def valT (y : Nat) : AV := match y with | 0 => .none | 1 => .ref 105 | _ => .ref 104
noncomputable def B2 (ds : List (Int × Int)) (y : Int) (dS fS dT fT : AV) (T : List (Nat × AO)) : St := ⟨locs0 ++ [(Str.ofString "way", .int y)], [], false, baseH 120 7 ds none none none none none none none none none none none none none none none none dS fS dT fT [] ++ T, 106⟩
noncomputable def N1 (k : Nat) : Nm := ⟨namesS, baseSp 100 typD [(33, .same)], k, 85, 0⟩
noncomputable def N2 (a k : Nat) : Nm := ⟨namesS, baseSp 110 typD ([(33, .same)] ++ cfgSp a), k, 95, 85⟩
noncomputable def N3 (y k : Nat) : Nm := ⟨namesS ++ [Str.ofString "way"], baseSp 120 typA (cfgTp y), k, 106, 95⟩
noncomputable def locs1 (y : Int) : List (Str × AV) := locs0 ++ [(Str.ofString "way", .int y), (Str.ofString "names", .ref 115), (Str.ofString "places", .ref 114)]
noncomputable def subH (n : Nat) : List (Nat × AO) := [(106, .attrs [(Str.ofString "kind", .str (Str.ofString "sub")), (Str.ofString "parent", .ref 2), (Str.ofString "root", .ref 2), (Str.ofString "number", .int 8), (Str.ofString "level", .int 1), (Str.ofString "part", .str (Str.ofString "body")), (Str.ofString "names", .ref 108), (Str.ofString "order", .ref 109), (Str.ofString "uses", .ref 110), (Str.ofString "use_types", .ref 111)] n), (107, .inst 127 106), (108, .dict false true [] 0), (110, .list [] true 0), (111, .list [] true 0), (114, .list [.ref 19, .ref 57, .ref 107] true 3)]
noncomputable def subSp (n : Nat) : List (Nat × Sp) := [(106, .attrs regA n), (107, .same), (108, .same), (110, .same), (111, .same), (114, .same)]
noncomputable def CT (j : Nat) (M y : Int) (xs : List AV) (ds : List (Int × Int)) (r0 r1 r2 r3 q0 q1 q2 q3 p0 p1 p2 p3 c0 c1 c2 c3 : Option AV) (dS fS dT fT : AV) (T : List (Nat × AO)) : St := ⟨locs1 y, [], false, baseH (150 + 50 * j) M ds r0 r1 r2 r3 q0 q1 q2 q3 p0 p1 p2 p3 c0 c1 c2 c3 dS fS dT fT [] ++ (subH (150 + 50 * j) ++ ((115, .list xs true j) :: T)), 117 + 14 * j⟩
noncomputable def namesC : List Str := namesS ++ [Str.ofString "way", Str.ofString "names", Str.ofString "places"]
noncomputable def N4 (k : Nat) : Nm := ⟨namesC, baseSp 150 typA (subSp 150 ++ [(115, .same)]), k, 117, 106⟩
noncomputable def entQ : List Str := [Str.ofString "kind", Str.ofString "key", Str.ofString "part", Str.ofString "subtype", Str.ofString "full", Str.ofString "is_ready", Str.ofString "is_overridden"]
noncomputable def nameOf (j : Nat) : Str := match j with | 0 => aN | 1 => bN | 2 => cN | _ => dN
noncomputable def seg (j : Nat) (ot : Bool) (at_ : Nat) : List (Nat × AO) := [(119 + 14 * j, .attrs [(Str.ofString "type", bif ot then .ref 65 else .ref 27), (Str.ofString "constraint", .none)] 2), (120 + 14 * j, .inst 293 (119 + 14 * j)),
  (121 + 14 * j, .attrs [(Str.ofString "kind", .str (Str.ofString "type")), (Str.ofString "key", .none), (Str.ofString "part", bif Nat.beq at_ 2 then .str (Str.ofString "body") else .str (Str.ofString "visible")), (Str.ofString "subtype", .ref (120 + 14 * j)), (Str.ofString "full", .none), (Str.ofString "is_ready", .bool true), (Str.ofString "is_overridden", .bool false)] 23), (122 + 14 * j, .inst 70 (121 + 14 * j)), (129 + 14 * j, .list [.ref (122 + 14 * j)] true 1), (130 + 14 * j, .tup [.str (nameOf j), .int (bif ot then 72 else 71), .int at_])]
noncomputable def segSp (j : Nat) : List (Nat × Sp) := [(119 + 14 * j, .same), (120 + 14 * j, .same), (121 + 14 * j, .attrs entQ 0), (122 + 14 * j, .same), (129 + 14 * j, .same), (130 + 14 * j, .same)]
noncomputable def N5 (j k : Nat) : Nm := ⟨namesC, baseSp (150 + 50 * (j + 1)) typA (subSp (150 + 50 * (j + 1)) ++ ([(115, .same)] ++ segSp j)), k, 117 + 14 * (j + 1), 117 + 14 * j⟩
noncomputable def hereV (at_ x j : Nat) : Option AV := bif Nat.beq at_ x then some (.ref (129 + 14 * j)) else none
/-- before the scope is made -/
noncomputable def CE (M y : Int) (xs : List AV) (ds : List (Int × Int)) (r0 r1 r2 r3 q0 q1 q2 q3 p0 p1 p2 p3 c0 c1 c2 c3 : Option AV) (dS fS dT fT : AV) (T : List (Nat × AO)) : St := ⟨locs1 y, [], false, baseH 400 M ds r0 r1 r2 r3 q0 q1 q2 q3 p0 p1 p2 p3 c0 c1 c2 c3 dS fS dT fT [] ++ (subH 400 ++ ((115, .list xs true 10) :: T)), 173⟩
noncomputable def N6 : Nm := ⟨namesC, baseSp 400 typA (subSp 400 ++ [(115, .bump 10)]), 48, 173, 173⟩
noncomputable def placeV (h : Nat) : AV := match h with | 0 => .ref 19 | 1 => .ref 57 | _ => .ref 107
noncomputable def scopeH (h m n : Nat) : List (Nat × AO) := [(173, .attrs [(Str.ofString "kind", .str (Str.ofString "block")), (Str.ofString "parent", placeV h), (Str.ofString "root", .ref 2), (Str.ofString "number", .int (Int.ofNat (m + 9))), (Str.ofString "level", .int (bif Nat.beq h 2 then 1 else 0)), (Str.ofString "names", .ref 175), (Str.ofString "uses", .ref 177), (Str.ofString "use_types", .ref 178)] n), (174, .inst 127 173), (175, .dict false true [] 0), (177, .list [] true 0), (178, .list [] true 0), (184, .attrs [(Str.ofString "place", .ref 174)] n), (185, .inst 419 184)]
noncomputable def blkA : List Str := [Str.ofString "kind", Str.ofString "parent", Str.ofString "root", Str.ofString "number", Str.ofString "level", Str.ofString "names", Str.ofString "uses", Str.ofString "use_types"]
noncomputable def scopeSp (n : Nat) : List (Nat × Sp) := [(173, .attrs blkA n), (174, .same), (175, .same), (177, .same), (178, .same), (184, .attrs [Str.ofString "place"] n), (185, .same)]
/-- before query i -/
noncomputable def CQ (i h m : Nat) (y : Int) (xs : List AV) (ds : List (Int × Int)) (r0 r1 r2 r3 q0 q1 q2 q3 p0 p1 p2 p3 c0 c1 c2 c3 : Option AV) (dS fS dT fT : AV) (T : List (Nat × AO)) : St := ⟨locs1 y ++ [(Str.ofString "here", .int h), (Str.ofString "scope", .ref 185)], [], false, scopeH h m 450 ++ (baseH 450 (Int.ofNat (m + 9)) ds r0 r1 r2 r3 q0 q1 q2 q3 p0 p1 p2 p3 c0 c1 c2 c3 dS fS dT fT [] ++ (subH 450 ++ ((115, .list xs true 10) :: T))), 190 + 36 * i⟩
noncomputable def namesQ : List Str := namesC ++ [Str.ofString "here", Str.ofString "scope"]
noncomputable def N7 : Nm := ⟨namesQ, scopeSp 450 ++ (baseSp 450 typA (subSp 450 ++ [(115, .same)])), 65, 190, 173⟩
/-- after query i, which left the next number at x -/
noncomputable def N8 (i x : Nat) : Nm := ⟨namesQ, scopeSp 450 ++ (baseSp 450 typA (subSp 450 ++ [(115, .same)])), 55 + (x - (190 + 36 * i)), 190 + 36 * (i + 1), 190 + 36 * i⟩
noncomputable def namesL (j : Nat) : List AV := match j with | 0 => [] | 1 => [.ref 130] | 2 => [.ref 130, .ref 144] | 3 => [.ref 130, .ref 144, .ref 158] | _ => [.ref 130, .ref 144, .ref 158, .ref 172]
noncomputable def putTurn (j : Nat) (σ : St) : St := { σ with locs := putL (Str.ofString "turn") (.int (j : Nat)) σ.locs }
noncomputable def putQ (x : Str) (n a : Int) (σ : St) : St := { σ with locs := putL (Str.ofString "at") (.int a) (putL (Str.ofString "number") (.int n) (putL (Str.ofString "name") (.str x) σ.locs)) }
end Mine
namespace Mine
noncomputable def nthT : List Stmt → Nat → List Stmt
  | l, 0 => l
  | [], _ => []
  | _ :: r, n + 1 => nthT r n
noncomputable def takeS : List Stmt → Nat → List Stmt
  | _, 0 => []
  | [], _ => []
  | s :: r, n + 1 => s :: takeS r n
noncomputable def forB (s : Stmt) : List Stmt := match s with | .For _ _ b _ _ => b | _ => []
noncomputable def lawB : List Stmt := match stAt 64 with | .FunctionDef _ _ b _ _ _ _ _ _ _ => b | _ => []
noncomputable def lawS : Scope := match stAt 64 with | .FunctionDef _ _ _ _ _ _ sc _ _ _ => sc | _ => default
noncomputable def sE1 : List Stmt := takeS (nthT lawB 1) 3
noncomputable def sE2 : List Stmt := takeS (nthT lawB 4) 1
noncomputable def sE3 : List Stmt := takeS (nthT lawB 5) 2
noncomputable def sE4 : List Stmt := takeS (nthT lawB 7) 1
noncomputable def sE5 : List Stmt := forB (nthS lawB 8)
noncomputable def sE7 : List Stmt := takeS (nthT lawB 9) 2
noncomputable def sE8 : List Stmt := forB (nthS lawB 11)
noncomputable def res (r : Option (Fl × St)) (N : St → Nm) : Option (Fl × Bool × List (Nat × AO) × St) := match r with
  | some r => some (r.1, chk (N r.2) r.2, dropH (N r.2).k r.2.heap, norm (N r.2) r.2)
  | none => none
noncomputable def evL (ss : List Stmt) (N : St → Nm) (σ : St) : Option (Fl × Bool × List (Nat × AO) × St) := res (sts (run tp 60) lawS ss σ) N
noncomputable def ev1 := evL sE1
noncomputable def ev2 := evL sE2
noncomputable def ev3 := evL sE3
noncomputable def ev4 := evL sE4
noncomputable def ev5 := evL sE5
noncomputable def ev7 := evL sE7
noncomputable def ev8 := evL sE8
end Mine
lay_quick Mine.ev1 Mine.ev2 Mine.ev3 Mine.ev4 Mine.ev5 Mine.ev7 Mine.ev8
namespace Mine
theorem e1 (ds : List (Int × Int)) : ev1 (fun _ => N1 85) ⟨[(Str.ofString "vial", .ref 0)], [], false, [(0, .vial ds)], 1⟩ = some (.next, true, [], B0 ds) := by
  rw [PySem.W.Fast.te10093901257836279207]; kernel_rfl
theorem e2_0 (ds : List (Int × Int)) : ev2 (fun _ => N2 0 42) (B0 ((2, 0) :: ds)) = some (.next, true, [], B1 ds .none .none []) := by
  rw [PySem.W.Fast.te15889516609732008708]; kernel_rfl
theorem e2_1 (ds : List (Int × Int)) : ev2 (fun _ => N2 1 52) (B0 ((2, 1) :: ds)) = some (.next, true, [], B1 ds (.ref 94) (.ref 94) (cfgS 1)) := by
  rw [PySem.W.Fast.te15889516609732008708]; kernel_rfl
theorem e3_0 (ds : List (Int × Int)) (dS fS : AV) (T : List (Nat × AO)) : ev3 (fun _ => N3 0 42) (B1 ((3, 0) :: ds) dS fS T) = some (.next, true, T, B2 ds 0 dS fS (valT 0) (valT 0) (cfgT 0 ++ T)) := by
  rw [PySem.W.Fast.te9321500371263800281]; kernel_rfl
theorem e3_1_0 (ds : List (Int × Int)) (fS : AV) (T : List (Nat × AO)) : ev3 (fun _ => N3 1 53) (B1 ((3, 1) :: ds) .none fS T) = some (.next, true, T, B2 ds 1 .none fS (valT 1) (valT 1) (cfgT 1 ++ T)) := by
  rw [PySem.W.Fast.te9321500371263800281]; kernel_rfl
theorem e3_1_1 (ds : List (Int × Int)) (fS : AV) (T : List (Nat × AO)) : ev3 (fun _ => N3 1 53) (B1 ((3, 1) :: ds) (.ref 94) fS T) = some (.next, true, T, B2 ds 1 (.ref 94) fS (valT 1) (valT 1) (cfgT 1 ++ T)) := by
  rw [PySem.W.Fast.te9321500371263800281]; kernel_rfl
theorem e3_2 (ds : List (Int × Int)) (dS fS : AV) (T : List (Nat × AO)) : ev3 (fun _ => N3 2 52) (B1 ((3, 2) :: ds) dS fS T) = some (.next, true, T, B2 ds 2 dS fS (valT 2) (valT 2) (cfgT 2 ++ T)) := by
  rw [PySem.W.Fast.te9321500371263800281]; kernel_rfl
theorem e4 (ds : List (Int × Int)) (y : Int) (dS fS dT fT : AV) (T : List (Nat × AO)) : ev4 (fun _ => N4 52) (B2 ds y dS fS dT fT T) = some (.next, true, T, CT 0 8 y [] ds none none none none none none none none none none none none none none none none dS fS dT fT T) := by
  rw [PySem.W.Fast.te2517828205714626816]; kernel_rfl
end Mine
namespace Mine
theorem e5_0_0_0 (M y : Int) (ds : List (Int × Int)) (dS fS dT fT : AV) (T : List (Nat × AO)) : ev5 (fun _ => N5 0 62) (putTurn 0 (CT 0 M y (namesL 0) ((2, ((0 : Nat) : Int)) :: (3, ((0 : Nat) : Int)) :: ds) none none none none none none none none none none none none none none none none dS fS dT fT T)) =
  some (.next, true, T, CT 1 (M + 1) y (namesL 1) ds (hereV 0 2 0) none none none (hereV 0 0 0) none none none (hereV 0 1 0) none none none (some (.int 1)) none none none dS fS dT fT (seg 0 false 0 ++ T)) := by
  rw [PySem.W.Fast.te15404195356834170009]; kernel_rfl
theorem e5_0_0_1 (M y : Int) (ds : List (Int × Int)) (dS fS dT fT : AV) (T : List (Nat × AO)) : ev5 (fun _ => N5 0 62) (putTurn 0 (CT 0 M y (namesL 0) ((2, ((0 : Nat) : Int)) :: (3, ((1 : Nat) : Int)) :: ds) none none none none none none none none none none none none none none none none dS fS dT fT T)) =
  some (.next, true, T, CT 1 (M + 1) y (namesL 1) ds (hereV 1 2 0) none none none (hereV 1 0 0) none none none (hereV 1 1 0) none none none (some (.int 1)) none none none dS fS dT fT (seg 0 false 1 ++ T)) := by
  rw [PySem.W.Fast.te15404195356834170009]; kernel_rfl
theorem e5_0_0_2 (M y : Int) (ds : List (Int × Int)) (dS fS dT fT : AV) (T : List (Nat × AO)) : ev5 (fun _ => N5 0 62) (putTurn 0 (CT 0 M y (namesL 0) ((2, ((0 : Nat) : Int)) :: (3, ((2 : Nat) : Int)) :: ds) none none none none none none none none none none none none none none none none dS fS dT fT T)) =
  some (.next, true, T, CT 1 (M + 1) y (namesL 1) ds (hereV 2 2 0) none none none (hereV 2 0 0) none none none (hereV 2 1 0) none none none (some (.int 1)) none none none dS fS dT fT (seg 0 false 2 ++ T)) := by
  rw [PySem.W.Fast.te15404195356834170009]; kernel_rfl
theorem e5_0_1_0 (M y : Int) (ds : List (Int × Int)) (dS fS dT fT : AV) (T : List (Nat × AO)) : ev5 (fun _ => N5 0 62) (putTurn 0 (CT 0 M y (namesL 0) ((2, ((1 : Nat) : Int)) :: (3, ((0 : Nat) : Int)) :: ds) none none none none none none none none none none none none none none none none dS fS dT fT T)) =
  some (.next, true, T, CT 1 (M + 1) y (namesL 1) ds (hereV 0 2 0) none none none (hereV 0 0 0) none none none (hereV 0 1 0) none none none (some (.int 1)) none none none dS fS dT fT (seg 0 true 0 ++ T)) := by
  rw [PySem.W.Fast.te15404195356834170009]; kernel_rfl
theorem e5_0_1_1 (M y : Int) (ds : List (Int × Int)) (dS fS dT fT : AV) (T : List (Nat × AO)) : ev5 (fun _ => N5 0 62) (putTurn 0 (CT 0 M y (namesL 0) ((2, ((1 : Nat) : Int)) :: (3, ((1 : Nat) : Int)) :: ds) none none none none none none none none none none none none none none none none dS fS dT fT T)) =
  some (.next, true, T, CT 1 (M + 1) y (namesL 1) ds (hereV 1 2 0) none none none (hereV 1 0 0) none none none (hereV 1 1 0) none none none (some (.int 1)) none none none dS fS dT fT (seg 0 true 1 ++ T)) := by
  rw [PySem.W.Fast.te15404195356834170009]; kernel_rfl
theorem e5_0_1_2 (M y : Int) (ds : List (Int × Int)) (dS fS dT fT : AV) (T : List (Nat × AO)) : ev5 (fun _ => N5 0 62) (putTurn 0 (CT 0 M y (namesL 0) ((2, ((1 : Nat) : Int)) :: (3, ((2 : Nat) : Int)) :: ds) none none none none none none none none none none none none none none none none dS fS dT fT T)) =
  some (.next, true, T, CT 1 (M + 1) y (namesL 1) ds (hereV 2 2 0) none none none (hereV 2 0 0) none none none (hereV 2 1 0) none none none (some (.int 1)) none none none dS fS dT fT (seg 0 true 2 ++ T)) := by
  rw [PySem.W.Fast.te15404195356834170009]; kernel_rfl
theorem e5_0 (o at_ : Nat) (ho : o < 2) (ha : at_ < 3) (M y : Int) (ds : List (Int × Int)) (dS fS dT fT : AV) (T : List (Nat × AO)) : ev5 (fun _ => N5 0 62) (putTurn 0 (CT 0 M y (namesL 0) ((2, (o : Int)) :: (3, (at_ : Int)) :: ds) none none none none none none none none none none none none none none none none dS fS dT fT T)) =
  some (.next, true, T, CT 1 (M + 1) y (namesL 1) ds (hereV at_ 2 0) none none none (hereV at_ 0 0) none none none (hereV at_ 1 0) none none none (some (.int 1)) none none none dS fS dT fT (seg 0 (Nat.beq o 1) at_ ++ T)) := match o, at_, ho, ha with
  | 0, 0, _, _ => e5_0_0_0 M y ds  dS fS dT fT T
  | 0, 1, _, _ => e5_0_0_1 M y ds  dS fS dT fT T
  | 0, 2, _, _ => e5_0_0_2 M y ds  dS fS dT fT T
  | 1, 0, _, _ => e5_0_1_0 M y ds  dS fS dT fT T
  | 1, 1, _, _ => e5_0_1_1 M y ds  dS fS dT fT T
  | 1, 2, _, _ => e5_0_1_2 M y ds  dS fS dT fT T
  | o + 2, _, h, _ => absurd h (by omega)
  | 0, at_ + 3, _, h => absurd h (by omega)
  | 1, at_ + 3, _, h => absurd h (by omega)
theorem e5_1_0_0 (M y : Int) (ds : List (Int × Int)) (r0 q0 p0 c0 : Option AV) (dS fS dT fT : AV) (T : List (Nat × AO)) : ev5 (fun _ => N5 1 62) (putTurn 1 (CT 1 M y (namesL 1) ((2, ((0 : Nat) : Int)) :: (3, ((0 : Nat) : Int)) :: ds) r0 none none none q0 none none none p0 none none none c0 none none none dS fS dT fT T)) =
  some (.next, true, T, CT 2 (M + 1) y (namesL 2) ds r0 (hereV 0 2 1) none none q0 (hereV 0 0 1) none none p0 (hereV 0 1 1) none none c0 (some (.int 1)) none none dS fS dT fT (seg 1 false 0 ++ T)) := by
  rw [PySem.W.Fast.te15404195356834170009]; kernel_rfl
theorem e5_1_0_1 (M y : Int) (ds : List (Int × Int)) (r0 q0 p0 c0 : Option AV) (dS fS dT fT : AV) (T : List (Nat × AO)) : ev5 (fun _ => N5 1 62) (putTurn 1 (CT 1 M y (namesL 1) ((2, ((0 : Nat) : Int)) :: (3, ((1 : Nat) : Int)) :: ds) r0 none none none q0 none none none p0 none none none c0 none none none dS fS dT fT T)) =
  some (.next, true, T, CT 2 (M + 1) y (namesL 2) ds r0 (hereV 1 2 1) none none q0 (hereV 1 0 1) none none p0 (hereV 1 1 1) none none c0 (some (.int 1)) none none dS fS dT fT (seg 1 false 1 ++ T)) := by
  rw [PySem.W.Fast.te15404195356834170009]; kernel_rfl
theorem e5_1_0_2 (M y : Int) (ds : List (Int × Int)) (r0 q0 p0 c0 : Option AV) (dS fS dT fT : AV) (T : List (Nat × AO)) : ev5 (fun _ => N5 1 62) (putTurn 1 (CT 1 M y (namesL 1) ((2, ((0 : Nat) : Int)) :: (3, ((2 : Nat) : Int)) :: ds) r0 none none none q0 none none none p0 none none none c0 none none none dS fS dT fT T)) =
  some (.next, true, T, CT 2 (M + 1) y (namesL 2) ds r0 (hereV 2 2 1) none none q0 (hereV 2 0 1) none none p0 (hereV 2 1 1) none none c0 (some (.int 1)) none none dS fS dT fT (seg 1 false 2 ++ T)) := by
  rw [PySem.W.Fast.te15404195356834170009]; kernel_rfl
theorem e5_1_1_0 (M y : Int) (ds : List (Int × Int)) (r0 q0 p0 c0 : Option AV) (dS fS dT fT : AV) (T : List (Nat × AO)) : ev5 (fun _ => N5 1 62) (putTurn 1 (CT 1 M y (namesL 1) ((2, ((1 : Nat) : Int)) :: (3, ((0 : Nat) : Int)) :: ds) r0 none none none q0 none none none p0 none none none c0 none none none dS fS dT fT T)) =
  some (.next, true, T, CT 2 (M + 1) y (namesL 2) ds r0 (hereV 0 2 1) none none q0 (hereV 0 0 1) none none p0 (hereV 0 1 1) none none c0 (some (.int 1)) none none dS fS dT fT (seg 1 true 0 ++ T)) := by
  rw [PySem.W.Fast.te15404195356834170009]; kernel_rfl
theorem e5_1_1_1 (M y : Int) (ds : List (Int × Int)) (r0 q0 p0 c0 : Option AV) (dS fS dT fT : AV) (T : List (Nat × AO)) : ev5 (fun _ => N5 1 62) (putTurn 1 (CT 1 M y (namesL 1) ((2, ((1 : Nat) : Int)) :: (3, ((1 : Nat) : Int)) :: ds) r0 none none none q0 none none none p0 none none none c0 none none none dS fS dT fT T)) =
  some (.next, true, T, CT 2 (M + 1) y (namesL 2) ds r0 (hereV 1 2 1) none none q0 (hereV 1 0 1) none none p0 (hereV 1 1 1) none none c0 (some (.int 1)) none none dS fS dT fT (seg 1 true 1 ++ T)) := by
  rw [PySem.W.Fast.te15404195356834170009]; kernel_rfl
theorem e5_1_1_2 (M y : Int) (ds : List (Int × Int)) (r0 q0 p0 c0 : Option AV) (dS fS dT fT : AV) (T : List (Nat × AO)) : ev5 (fun _ => N5 1 62) (putTurn 1 (CT 1 M y (namesL 1) ((2, ((1 : Nat) : Int)) :: (3, ((2 : Nat) : Int)) :: ds) r0 none none none q0 none none none p0 none none none c0 none none none dS fS dT fT T)) =
  some (.next, true, T, CT 2 (M + 1) y (namesL 2) ds r0 (hereV 2 2 1) none none q0 (hereV 2 0 1) none none p0 (hereV 2 1 1) none none c0 (some (.int 1)) none none dS fS dT fT (seg 1 true 2 ++ T)) := by
  rw [PySem.W.Fast.te15404195356834170009]; kernel_rfl
theorem e5_1 (o at_ : Nat) (ho : o < 2) (ha : at_ < 3) (M y : Int) (ds : List (Int × Int)) (r0 q0 p0 c0 : Option AV) (dS fS dT fT : AV) (T : List (Nat × AO)) : ev5 (fun _ => N5 1 62) (putTurn 1 (CT 1 M y (namesL 1) ((2, (o : Int)) :: (3, (at_ : Int)) :: ds) r0 none none none q0 none none none p0 none none none c0 none none none dS fS dT fT T)) =
  some (.next, true, T, CT 2 (M + 1) y (namesL 2) ds r0 (hereV at_ 2 1) none none q0 (hereV at_ 0 1) none none p0 (hereV at_ 1 1) none none c0 (some (.int 1)) none none dS fS dT fT (seg 1 (Nat.beq o 1) at_ ++ T)) := match o, at_, ho, ha with
  | 0, 0, _, _ => e5_1_0_0 M y ds r0 q0 p0 c0 dS fS dT fT T
  | 0, 1, _, _ => e5_1_0_1 M y ds r0 q0 p0 c0 dS fS dT fT T
  | 0, 2, _, _ => e5_1_0_2 M y ds r0 q0 p0 c0 dS fS dT fT T
  | 1, 0, _, _ => e5_1_1_0 M y ds r0 q0 p0 c0 dS fS dT fT T
  | 1, 1, _, _ => e5_1_1_1 M y ds r0 q0 p0 c0 dS fS dT fT T
  | 1, 2, _, _ => e5_1_1_2 M y ds r0 q0 p0 c0 dS fS dT fT T
  | o + 2, _, h, _ => absurd h (by omega)
  | 0, at_ + 3, _, h => absurd h (by omega)
  | 1, at_ + 3, _, h => absurd h (by omega)
theorem e5_2_0_0 (M y : Int) (ds : List (Int × Int)) (r0 r1 q0 q1 p0 p1 c0 c1 : Option AV) (dS fS dT fT : AV) (T : List (Nat × AO)) : ev5 (fun _ => N5 2 62) (putTurn 2 (CT 2 M y (namesL 2) ((2, ((0 : Nat) : Int)) :: (3, ((0 : Nat) : Int)) :: ds) r0 r1 none none q0 q1 none none p0 p1 none none c0 c1 none none dS fS dT fT T)) =
  some (.next, true, T, CT 3 (M + 1) y (namesL 3) ds r0 r1 (hereV 0 2 2) none q0 q1 (hereV 0 0 2) none p0 p1 (hereV 0 1 2) none c0 c1 (some (.int 1)) none dS fS dT fT (seg 2 false 0 ++ T)) := by
  rw [PySem.W.Fast.te15404195356834170009]; kernel_rfl
theorem e5_2_0_1 (M y : Int) (ds : List (Int × Int)) (r0 r1 q0 q1 p0 p1 c0 c1 : Option AV) (dS fS dT fT : AV) (T : List (Nat × AO)) : ev5 (fun _ => N5 2 62) (putTurn 2 (CT 2 M y (namesL 2) ((2, ((0 : Nat) : Int)) :: (3, ((1 : Nat) : Int)) :: ds) r0 r1 none none q0 q1 none none p0 p1 none none c0 c1 none none dS fS dT fT T)) =
  some (.next, true, T, CT 3 (M + 1) y (namesL 3) ds r0 r1 (hereV 1 2 2) none q0 q1 (hereV 1 0 2) none p0 p1 (hereV 1 1 2) none c0 c1 (some (.int 1)) none dS fS dT fT (seg 2 false 1 ++ T)) := by
  rw [PySem.W.Fast.te15404195356834170009]; kernel_rfl
theorem e5_2_0_2 (M y : Int) (ds : List (Int × Int)) (r0 r1 q0 q1 p0 p1 c0 c1 : Option AV) (dS fS dT fT : AV) (T : List (Nat × AO)) : ev5 (fun _ => N5 2 62) (putTurn 2 (CT 2 M y (namesL 2) ((2, ((0 : Nat) : Int)) :: (3, ((2 : Nat) : Int)) :: ds) r0 r1 none none q0 q1 none none p0 p1 none none c0 c1 none none dS fS dT fT T)) =
  some (.next, true, T, CT 3 (M + 1) y (namesL 3) ds r0 r1 (hereV 2 2 2) none q0 q1 (hereV 2 0 2) none p0 p1 (hereV 2 1 2) none c0 c1 (some (.int 1)) none dS fS dT fT (seg 2 false 2 ++ T)) := by
  rw [PySem.W.Fast.te15404195356834170009]; kernel_rfl
theorem e5_2_1_0 (M y : Int) (ds : List (Int × Int)) (r0 r1 q0 q1 p0 p1 c0 c1 : Option AV) (dS fS dT fT : AV) (T : List (Nat × AO)) : ev5 (fun _ => N5 2 62) (putTurn 2 (CT 2 M y (namesL 2) ((2, ((1 : Nat) : Int)) :: (3, ((0 : Nat) : Int)) :: ds) r0 r1 none none q0 q1 none none p0 p1 none none c0 c1 none none dS fS dT fT T)) =
  some (.next, true, T, CT 3 (M + 1) y (namesL 3) ds r0 r1 (hereV 0 2 2) none q0 q1 (hereV 0 0 2) none p0 p1 (hereV 0 1 2) none c0 c1 (some (.int 1)) none dS fS dT fT (seg 2 true 0 ++ T)) := by
  rw [PySem.W.Fast.te15404195356834170009]; kernel_rfl
theorem e5_2_1_1 (M y : Int) (ds : List (Int × Int)) (r0 r1 q0 q1 p0 p1 c0 c1 : Option AV) (dS fS dT fT : AV) (T : List (Nat × AO)) : ev5 (fun _ => N5 2 62) (putTurn 2 (CT 2 M y (namesL 2) ((2, ((1 : Nat) : Int)) :: (3, ((1 : Nat) : Int)) :: ds) r0 r1 none none q0 q1 none none p0 p1 none none c0 c1 none none dS fS dT fT T)) =
  some (.next, true, T, CT 3 (M + 1) y (namesL 3) ds r0 r1 (hereV 1 2 2) none q0 q1 (hereV 1 0 2) none p0 p1 (hereV 1 1 2) none c0 c1 (some (.int 1)) none dS fS dT fT (seg 2 true 1 ++ T)) := by
  rw [PySem.W.Fast.te15404195356834170009]; kernel_rfl
theorem e5_2_1_2 (M y : Int) (ds : List (Int × Int)) (r0 r1 q0 q1 p0 p1 c0 c1 : Option AV) (dS fS dT fT : AV) (T : List (Nat × AO)) : ev5 (fun _ => N5 2 62) (putTurn 2 (CT 2 M y (namesL 2) ((2, ((1 : Nat) : Int)) :: (3, ((2 : Nat) : Int)) :: ds) r0 r1 none none q0 q1 none none p0 p1 none none c0 c1 none none dS fS dT fT T)) =
  some (.next, true, T, CT 3 (M + 1) y (namesL 3) ds r0 r1 (hereV 2 2 2) none q0 q1 (hereV 2 0 2) none p0 p1 (hereV 2 1 2) none c0 c1 (some (.int 1)) none dS fS dT fT (seg 2 true 2 ++ T)) := by
  rw [PySem.W.Fast.te15404195356834170009]; kernel_rfl
theorem e5_2 (o at_ : Nat) (ho : o < 2) (ha : at_ < 3) (M y : Int) (ds : List (Int × Int)) (r0 r1 q0 q1 p0 p1 c0 c1 : Option AV) (dS fS dT fT : AV) (T : List (Nat × AO)) : ev5 (fun _ => N5 2 62) (putTurn 2 (CT 2 M y (namesL 2) ((2, (o : Int)) :: (3, (at_ : Int)) :: ds) r0 r1 none none q0 q1 none none p0 p1 none none c0 c1 none none dS fS dT fT T)) =
  some (.next, true, T, CT 3 (M + 1) y (namesL 3) ds r0 r1 (hereV at_ 2 2) none q0 q1 (hereV at_ 0 2) none p0 p1 (hereV at_ 1 2) none c0 c1 (some (.int 1)) none dS fS dT fT (seg 2 (Nat.beq o 1) at_ ++ T)) := match o, at_, ho, ha with
  | 0, 0, _, _ => e5_2_0_0 M y ds r0 r1 q0 q1 p0 p1 c0 c1 dS fS dT fT T
  | 0, 1, _, _ => e5_2_0_1 M y ds r0 r1 q0 q1 p0 p1 c0 c1 dS fS dT fT T
  | 0, 2, _, _ => e5_2_0_2 M y ds r0 r1 q0 q1 p0 p1 c0 c1 dS fS dT fT T
  | 1, 0, _, _ => e5_2_1_0 M y ds r0 r1 q0 q1 p0 p1 c0 c1 dS fS dT fT T
  | 1, 1, _, _ => e5_2_1_1 M y ds r0 r1 q0 q1 p0 p1 c0 c1 dS fS dT fT T
  | 1, 2, _, _ => e5_2_1_2 M y ds r0 r1 q0 q1 p0 p1 c0 c1 dS fS dT fT T
  | o + 2, _, h, _ => absurd h (by omega)
  | 0, at_ + 3, _, h => absurd h (by omega)
  | 1, at_ + 3, _, h => absurd h (by omega)
theorem e5_3_0_0 (M y : Int) (ds : List (Int × Int)) (r0 r1 r2 q0 q1 q2 p0 p1 p2 c0 c1 c2 : Option AV) (dS fS dT fT : AV) (T : List (Nat × AO)) : ev5 (fun _ => N5 3 62) (putTurn 3 (CT 3 M y (namesL 3) ((2, ((0 : Nat) : Int)) :: (3, ((0 : Nat) : Int)) :: ds) r0 r1 r2 none q0 q1 q2 none p0 p1 p2 none c0 c1 c2 none dS fS dT fT T)) =
  some (.next, true, T, CT 4 (M + 1) y (namesL 4) ds r0 r1 r2 (hereV 0 2 3) q0 q1 q2 (hereV 0 0 3) p0 p1 p2 (hereV 0 1 3) c0 c1 c2 (some (.int 1)) dS fS dT fT (seg 3 false 0 ++ T)) := by
  rw [PySem.W.Fast.te15404195356834170009]; kernel_rfl
theorem e5_3_0_1 (M y : Int) (ds : List (Int × Int)) (r0 r1 r2 q0 q1 q2 p0 p1 p2 c0 c1 c2 : Option AV) (dS fS dT fT : AV) (T : List (Nat × AO)) : ev5 (fun _ => N5 3 62) (putTurn 3 (CT 3 M y (namesL 3) ((2, ((0 : Nat) : Int)) :: (3, ((1 : Nat) : Int)) :: ds) r0 r1 r2 none q0 q1 q2 none p0 p1 p2 none c0 c1 c2 none dS fS dT fT T)) =
  some (.next, true, T, CT 4 (M + 1) y (namesL 4) ds r0 r1 r2 (hereV 1 2 3) q0 q1 q2 (hereV 1 0 3) p0 p1 p2 (hereV 1 1 3) c0 c1 c2 (some (.int 1)) dS fS dT fT (seg 3 false 1 ++ T)) := by
  rw [PySem.W.Fast.te15404195356834170009]; kernel_rfl
theorem e5_3_0_2 (M y : Int) (ds : List (Int × Int)) (r0 r1 r2 q0 q1 q2 p0 p1 p2 c0 c1 c2 : Option AV) (dS fS dT fT : AV) (T : List (Nat × AO)) : ev5 (fun _ => N5 3 62) (putTurn 3 (CT 3 M y (namesL 3) ((2, ((0 : Nat) : Int)) :: (3, ((2 : Nat) : Int)) :: ds) r0 r1 r2 none q0 q1 q2 none p0 p1 p2 none c0 c1 c2 none dS fS dT fT T)) =
  some (.next, true, T, CT 4 (M + 1) y (namesL 4) ds r0 r1 r2 (hereV 2 2 3) q0 q1 q2 (hereV 2 0 3) p0 p1 p2 (hereV 2 1 3) c0 c1 c2 (some (.int 1)) dS fS dT fT (seg 3 false 2 ++ T)) := by
  rw [PySem.W.Fast.te15404195356834170009]; kernel_rfl
theorem e5_3_1_0 (M y : Int) (ds : List (Int × Int)) (r0 r1 r2 q0 q1 q2 p0 p1 p2 c0 c1 c2 : Option AV) (dS fS dT fT : AV) (T : List (Nat × AO)) : ev5 (fun _ => N5 3 62) (putTurn 3 (CT 3 M y (namesL 3) ((2, ((1 : Nat) : Int)) :: (3, ((0 : Nat) : Int)) :: ds) r0 r1 r2 none q0 q1 q2 none p0 p1 p2 none c0 c1 c2 none dS fS dT fT T)) =
  some (.next, true, T, CT 4 (M + 1) y (namesL 4) ds r0 r1 r2 (hereV 0 2 3) q0 q1 q2 (hereV 0 0 3) p0 p1 p2 (hereV 0 1 3) c0 c1 c2 (some (.int 1)) dS fS dT fT (seg 3 true 0 ++ T)) := by
  rw [PySem.W.Fast.te15404195356834170009]; kernel_rfl
theorem e5_3_1_1 (M y : Int) (ds : List (Int × Int)) (r0 r1 r2 q0 q1 q2 p0 p1 p2 c0 c1 c2 : Option AV) (dS fS dT fT : AV) (T : List (Nat × AO)) : ev5 (fun _ => N5 3 62) (putTurn 3 (CT 3 M y (namesL 3) ((2, ((1 : Nat) : Int)) :: (3, ((1 : Nat) : Int)) :: ds) r0 r1 r2 none q0 q1 q2 none p0 p1 p2 none c0 c1 c2 none dS fS dT fT T)) =
  some (.next, true, T, CT 4 (M + 1) y (namesL 4) ds r0 r1 r2 (hereV 1 2 3) q0 q1 q2 (hereV 1 0 3) p0 p1 p2 (hereV 1 1 3) c0 c1 c2 (some (.int 1)) dS fS dT fT (seg 3 true 1 ++ T)) := by
  rw [PySem.W.Fast.te15404195356834170009]; kernel_rfl
theorem e5_3_1_2 (M y : Int) (ds : List (Int × Int)) (r0 r1 r2 q0 q1 q2 p0 p1 p2 c0 c1 c2 : Option AV) (dS fS dT fT : AV) (T : List (Nat × AO)) : ev5 (fun _ => N5 3 62) (putTurn 3 (CT 3 M y (namesL 3) ((2, ((1 : Nat) : Int)) :: (3, ((2 : Nat) : Int)) :: ds) r0 r1 r2 none q0 q1 q2 none p0 p1 p2 none c0 c1 c2 none dS fS dT fT T)) =
  some (.next, true, T, CT 4 (M + 1) y (namesL 4) ds r0 r1 r2 (hereV 2 2 3) q0 q1 q2 (hereV 2 0 3) p0 p1 p2 (hereV 2 1 3) c0 c1 c2 (some (.int 1)) dS fS dT fT (seg 3 true 2 ++ T)) := by
  rw [PySem.W.Fast.te15404195356834170009]; kernel_rfl
theorem e5_3 (o at_ : Nat) (ho : o < 2) (ha : at_ < 3) (M y : Int) (ds : List (Int × Int)) (r0 r1 r2 q0 q1 q2 p0 p1 p2 c0 c1 c2 : Option AV) (dS fS dT fT : AV) (T : List (Nat × AO)) : ev5 (fun _ => N5 3 62) (putTurn 3 (CT 3 M y (namesL 3) ((2, (o : Int)) :: (3, (at_ : Int)) :: ds) r0 r1 r2 none q0 q1 q2 none p0 p1 p2 none c0 c1 c2 none dS fS dT fT T)) =
  some (.next, true, T, CT 4 (M + 1) y (namesL 4) ds r0 r1 r2 (hereV at_ 2 3) q0 q1 q2 (hereV at_ 0 3) p0 p1 p2 (hereV at_ 1 3) c0 c1 c2 (some (.int 1)) dS fS dT fT (seg 3 (Nat.beq o 1) at_ ++ T)) := match o, at_, ho, ha with
  | 0, 0, _, _ => e5_3_0_0 M y ds r0 r1 r2 q0 q1 q2 p0 p1 p2 c0 c1 c2 dS fS dT fT T
  | 0, 1, _, _ => e5_3_0_1 M y ds r0 r1 r2 q0 q1 q2 p0 p1 p2 c0 c1 c2 dS fS dT fT T
  | 0, 2, _, _ => e5_3_0_2 M y ds r0 r1 r2 q0 q1 q2 p0 p1 p2 c0 c1 c2 dS fS dT fT T
  | 1, 0, _, _ => e5_3_1_0 M y ds r0 r1 r2 q0 q1 q2 p0 p1 p2 c0 c1 c2 dS fS dT fT T
  | 1, 1, _, _ => e5_3_1_1 M y ds r0 r1 r2 q0 q1 q2 p0 p1 p2 c0 c1 c2 dS fS dT fT T
  | 1, 2, _, _ => e5_3_1_2 M y ds r0 r1 r2 q0 q1 q2 p0 p1 p2 c0 c1 c2 dS fS dT fT T
  | o + 2, _, h, _ => absurd h (by omega)
  | 0, at_ + 3, _, h => absurd h (by omega)
  | 1, at_ + 3, _, h => absurd h (by omega)
end Mine
namespace Mine
noncomputable def rArg : PySem.Expr := match nthS lawB 8 with | .For _ (.Call _ (e :: _) _ _) _ _ _ => e | _ => default
noncomputable def evR (σ : St) : Option (AV × St) := exV (run tp 60) rArg lawS σ
end Mine
lay_quick Mine.evR
namespace Mine
theorem e45 (r : Int) (M y : Int) (ds : List (Int × Int)) (dS fS dT fT : AV) (T : List (Nat × AO)) : evR (CT 0 M y [] ((4, r) :: ds) none none none none none none none none none none none none none none none none dS fS dT fT T) = some (.int (1 + r), CT 0 M y [] ds none none none none none none none none none none none none none none none none dS fS dT fT T) := by
  rw [PySem.W.Fast.te2551578473643526104]; kernel_rfl
theorem e6_0 (y : Int) (xs : List AV) (ds : List (Int × Int)) (r0 r1 r2 r3 q0 q1 q2 q3 p0 p1 p2 p3 c0 c1 c2 c3 : Option AV) (dS fS dT fT : AV) (T : List (Nat × AO)) (M : Int) : (chk N6 (CT 1 M y xs ds r0 r1 r2 r3 q0 q1 q2 q3 p0 p1 p2 p3 c0 c1 c2 c3 dS fS dT fT T), dropH 48 (CT 1 M y xs ds r0 r1 r2 r3 q0 q1 q2 q3 p0 p1 p2 p3 c0 c1 c2 c3 dS fS dT fT T).heap, norm N6 (CT 1 M y xs ds r0 r1 r2 r3 q0 q1 q2 q3 p0 p1 p2 p3 c0 c1 c2 c3 dS fS dT fT T)) =
  (true, T, CE M y xs ds r0 r1 r2 r3 q0 q1 q2 q3 p0 p1 p2 p3 c0 c1 c2 c3 dS fS dT fT T) := by kernel_rfl
theorem e6_1 (y : Int) (xs : List AV) (ds : List (Int × Int)) (r0 r1 r2 r3 q0 q1 q2 q3 p0 p1 p2 p3 c0 c1 c2 c3 : Option AV) (dS fS dT fT : AV) (T : List (Nat × AO)) (M : Int) : (chk N6 (CT 2 M y xs ds r0 r1 r2 r3 q0 q1 q2 q3 p0 p1 p2 p3 c0 c1 c2 c3 dS fS dT fT T), dropH 48 (CT 2 M y xs ds r0 r1 r2 r3 q0 q1 q2 q3 p0 p1 p2 p3 c0 c1 c2 c3 dS fS dT fT T).heap, norm N6 (CT 2 M y xs ds r0 r1 r2 r3 q0 q1 q2 q3 p0 p1 p2 p3 c0 c1 c2 c3 dS fS dT fT T)) =
  (true, T, CE M y xs ds r0 r1 r2 r3 q0 q1 q2 q3 p0 p1 p2 p3 c0 c1 c2 c3 dS fS dT fT T) := by kernel_rfl
theorem e6_2 (y : Int) (xs : List AV) (ds : List (Int × Int)) (r0 r1 r2 r3 q0 q1 q2 q3 p0 p1 p2 p3 c0 c1 c2 c3 : Option AV) (dS fS dT fT : AV) (T : List (Nat × AO)) (M : Int) : (chk N6 (CT 3 M y xs ds r0 r1 r2 r3 q0 q1 q2 q3 p0 p1 p2 p3 c0 c1 c2 c3 dS fS dT fT T), dropH 48 (CT 3 M y xs ds r0 r1 r2 r3 q0 q1 q2 q3 p0 p1 p2 p3 c0 c1 c2 c3 dS fS dT fT T).heap, norm N6 (CT 3 M y xs ds r0 r1 r2 r3 q0 q1 q2 q3 p0 p1 p2 p3 c0 c1 c2 c3 dS fS dT fT T)) =
  (true, T, CE M y xs ds r0 r1 r2 r3 q0 q1 q2 q3 p0 p1 p2 p3 c0 c1 c2 c3 dS fS dT fT T) := by kernel_rfl
theorem e6_3 (y : Int) (xs : List AV) (ds : List (Int × Int)) (r0 r1 r2 r3 q0 q1 q2 q3 p0 p1 p2 p3 c0 c1 c2 c3 : Option AV) (dS fS dT fT : AV) (T : List (Nat × AO)) (M : Int) : (chk N6 (CT 4 M y xs ds r0 r1 r2 r3 q0 q1 q2 q3 p0 p1 p2 p3 c0 c1 c2 c3 dS fS dT fT T), dropH 48 (CT 4 M y xs ds r0 r1 r2 r3 q0 q1 q2 q3 p0 p1 p2 p3 c0 c1 c2 c3 dS fS dT fT T).heap, norm N6 (CT 4 M y xs ds r0 r1 r2 r3 q0 q1 q2 q3 p0 p1 p2 p3 c0 c1 c2 c3 dS fS dT fT T)) =
  (true, T, CE M y xs ds r0 r1 r2 r3 q0 q1 q2 q3 p0 p1 p2 p3 c0 c1 c2 c3 dS fS dT fT T) := by kernel_rfl
theorem e7_0 (m : Nat) (y : Int) (xs : List AV) (ds : List (Int × Int)) (r0 r1 r2 r3 q0 q1 q2 q3 p0 p1 p2 p3 c0 c1 c2 c3 : Option AV) (dS fS dT fT : AV) (T : List (Nat × AO)) : ev7 (fun _ => N7) (CE (Int.ofNat (m + 8)) y xs ((3, ((0 : Nat) : Int)) :: ds) r0 r1 r2 r3 q0 q1 q2 q3 p0 p1 p2 p3 c0 c1 c2 c3 dS fS dT fT T) =
  some (.next, true, T, CQ 0 0 m y xs ds r0 r1 r2 r3 q0 q1 q2 q3 p0 p1 p2 p3 c0 c1 c2 c3 dS fS dT fT T) := by
  rw [PySem.W.Fast.te5570044393470864874]; kernel_rfl
theorem e7_1 (m : Nat) (y : Int) (xs : List AV) (ds : List (Int × Int)) (r0 r1 r2 r3 q0 q1 q2 q3 p0 p1 p2 p3 c0 c1 c2 c3 : Option AV) (dS fS dT fT : AV) (T : List (Nat × AO)) : ev7 (fun _ => N7) (CE (Int.ofNat (m + 8)) y xs ((3, ((1 : Nat) : Int)) :: ds) r0 r1 r2 r3 q0 q1 q2 q3 p0 p1 p2 p3 c0 c1 c2 c3 dS fS dT fT T) =
  some (.next, true, T, CQ 0 1 m y xs ds r0 r1 r2 r3 q0 q1 q2 q3 p0 p1 p2 p3 c0 c1 c2 c3 dS fS dT fT T) := by
  rw [PySem.W.Fast.te5570044393470864874]; kernel_rfl
theorem e7_2 (m : Nat) (y : Int) (xs : List AV) (ds : List (Int × Int)) (r0 r1 r2 r3 q0 q1 q2 q3 p0 p1 p2 p3 c0 c1 c2 c3 : Option AV) (dS fS dT fT : AV) (T : List (Nat × AO)) : ev7 (fun _ => N7) (CE (Int.ofNat (m + 8)) y xs ((3, ((2 : Nat) : Int)) :: ds) r0 r1 r2 r3 q0 q1 q2 q3 p0 p1 p2 p3 c0 c1 c2 c3 dS fS dT fT T) =
  some (.next, true, T, CQ 0 2 m y xs ds r0 r1 r2 r3 q0 q1 q2 q3 p0 p1 p2 p3 c0 c1 c2 c3 dS fS dT fT T) := by
  rw [PySem.W.Fast.te5570044393470864874]; kernel_rfl
theorem e7 (h : Nat) (hh : h < 3) (m : Nat) (y : Int) (xs : List AV) (ds : List (Int × Int)) (r0 r1 r2 r3 q0 q1 q2 q3 p0 p1 p2 p3 c0 c1 c2 c3 : Option AV) (dS fS dT fT : AV) (T : List (Nat × AO)) : ev7 (fun _ => N7) (CE (Int.ofNat (m + 8)) y xs ((3, (h : Int)) :: ds) r0 r1 r2 r3 q0 q1 q2 q3 p0 p1 p2 p3 c0 c1 c2 c3 dS fS dT fT T) =
  some (.next, true, T, CQ 0 h m y xs ds r0 r1 r2 r3 q0 q1 q2 q3 p0 p1 p2 p3 c0 c1 c2 c3 dS fS dT fT T) := match h, hh with
  | 0, _ => e7_0 m y xs ds r0 r1 r2 r3 q0 q1 q2 q3 p0 p1 p2 p3 c0 c1 c2 c3 dS fS dT fT T
  | 1, _ => e7_1 m y xs ds r0 r1 r2 r3 q0 q1 q2 q3 p0 p1 p2 p3 c0 c1 c2 c3 dS fS dT fT T
  | 2, _ => e7_2 m y xs ds r0 r1 r2 r3 q0 q1 q2 q3 p0 p1 p2 p3 c0 c1 c2 c3 dS fS dT fT T
  | h + 3, hh => absurd hh (by omega)
end Mine
namespace Mine
noncomputable def sel (j i : Nat) (v w : Option AV) : Option AV := bif Nat.beq i j then v else w
noncomputable def CQj (i j at_ h m : Nat) (y : Int) (xs : List AV) (ds : List (Int × Int)) (r0 r1 r2 r3 q0 q1 q2 q3 p0 p1 p2 p3 c0 c1 c2 c3 : Option AV) (dS fS dT fT : AV) (T : List (Nat × AO)) : St :=
  CQ i h m y xs ds (sel j 0 (hereV at_ 2 j) r0) (sel j 1 (hereV at_ 2 j) r1) (sel j 2 (hereV at_ 2 j) r2) (sel j 3 (hereV at_ 2 j) r3) (sel j 0 (hereV at_ 0 j) q0) (sel j 1 (hereV at_ 0 j) q1) (sel j 2 (hereV at_ 0 j) q2) (sel j 3 (hereV at_ 0 j) q3) (sel j 0 (hereV at_ 1 j) p0) (sel j 1 (hereV at_ 1 j) p1) (sel j 2 (hereV at_ 1 j) p2) (sel j 3 (hereV at_ 1 j) p3) c0 c1 c2 c3 dS fS dT fT T
abbrev QF := (St → Nm) → St → Option (Fl × Bool × List (Nat × AO) × St)
noncomputable def QL0 (F : QF) (j at_ h a : Nat) := fun (m : Nat) (y : Int) (dT fT : AV) (xs : List AV) (ds : List (Int × Int)) (r0 r1 r2 r3 q0 q1 q2 q3 p0 p1 p2 p3 c0 c1 c2 c3 : Option AV) (T : List (Nat × AO)) =>
  F (fun σ => N8 j σ.nxt) (putQ (nameOf j) 71 (at_ : Int) (CQj j j at_ h m y xs ds r0 r1 r2 r3 q0 q1 q2 q3 p0 p1 p2 p3 c0 c1 c2 c3 (valS a) (valS a) dT fT (seg j false at_ ++ (cfgS a ++ T))))
noncomputable def QR0 (j at_ h a : Nat) := fun (m : Nat) (y : Int) (dT fT : AV) (xs : List AV) (ds : List (Int × Int)) (r0 r1 r2 r3 q0 q1 q2 q3 p0 p1 p2 p3 c0 c1 c2 c3 : Option AV) (T : List (Nat × AO)) =>
  (some (Fl.next, true, seg j false at_ ++ (cfgS a ++ T), CQj (j + 1) j at_ h m y xs ds r0 r1 r2 r3 q0 q1 q2 q3 p0 p1 p2 p3 c0 c1 c2 c3 (valS a) (valS a) dT fT (seg j false at_ ++ (cfgS a ++ T))) : Option (Fl × Bool × List (Nat × AO) × St))
noncomputable def QL1 (F : QF) (j at_ h y : Nat) := fun (m : Nat) (dS fS : AV) (xs : List AV) (ds : List (Int × Int)) (r0 r1 r2 r3 q0 q1 q2 q3 p0 p1 p2 p3 c0 c1 c2 c3 : Option AV) (T : List (Nat × AO)) =>
  F (fun σ => N8 j σ.nxt) (putQ (nameOf j) 72 (at_ : Int) (CQj j j at_ h m (y : Int) xs ds r0 r1 r2 r3 q0 q1 q2 q3 p0 p1 p2 p3 c0 c1 c2 c3 dS fS (valT y) (valT y) (seg j true at_ ++ (cfgT y ++ T))))
noncomputable def QR1 (j at_ h y : Nat) := fun (m : Nat) (dS fS : AV) (xs : List AV) (ds : List (Int × Int)) (r0 r1 r2 r3 q0 q1 q2 q3 p0 p1 p2 p3 c0 c1 c2 c3 : Option AV) (T : List (Nat × AO)) =>
  (some (Fl.next, true, seg j true at_ ++ (cfgT y ++ T), CQj (j + 1) j at_ h m (y : Int) xs ds r0 r1 r2 r3 q0 q1 q2 q3 p0 p1 p2 p3 c0 c1 c2 c3 dS fS (valT y) (valT y) (seg j true at_ ++ (cfgT y ++ T))) : Option (Fl × Bool × List (Nat × AO) × St))
end Mine
namespace Mine
theorem e8_0_0_0_0_0 : QL0 PySem.W.Fast.tw7225481918981805544 0 0 0 0 = QR0 0 0 0 0 := by kernel_rfl
theorem e8_0_0_0_0_1 : QL0 PySem.W.Fast.tw7225481918981805544 0 0 0 1 = QR0 0 0 0 1 := by kernel_rfl
theorem e8_0_0_0_1_0 : QL0 PySem.W.Fast.tw7225481918981805544 0 0 1 0 = QR0 0 0 1 0 := by kernel_rfl
theorem e8_0_0_0_1_1 : QL0 PySem.W.Fast.tw7225481918981805544 0 0 1 1 = QR0 0 0 1 1 := by kernel_rfl
theorem e8_0_0_0_2_0 : QL0 PySem.W.Fast.tw7225481918981805544 0 0 2 0 = QR0 0 0 2 0 := by kernel_rfl
theorem e8_0_0_0_2_1 : QL0 PySem.W.Fast.tw7225481918981805544 0 0 2 1 = QR0 0 0 2 1 := by kernel_rfl
theorem e8_0_0_1_0_0 : QL0 PySem.W.Fast.tw7225481918981805544 0 1 0 0 = QR0 0 1 0 0 := by kernel_rfl
theorem e8_0_0_1_0_1 : QL0 PySem.W.Fast.tw7225481918981805544 0 1 0 1 = QR0 0 1 0 1 := by kernel_rfl
theorem e8_0_0_1_1_0 : QL0 PySem.W.Fast.tw7225481918981805544 0 1 1 0 = QR0 0 1 1 0 := by kernel_rfl
theorem e8_0_0_1_1_1 : QL0 PySem.W.Fast.tw7225481918981805544 0 1 1 1 = QR0 0 1 1 1 := by kernel_rfl
theorem e8_0_0_1_2_0 : QL0 PySem.W.Fast.tw7225481918981805544 0 1 2 0 = QR0 0 1 2 0 := by kernel_rfl
theorem e8_0_0_1_2_1 : QL0 PySem.W.Fast.tw7225481918981805544 0 1 2 1 = QR0 0 1 2 1 := by kernel_rfl
theorem e8_0_0_2_0_0 : QL0 PySem.W.Fast.tw7225481918981805544 0 2 0 0 = QR0 0 2 0 0 := by kernel_rfl
theorem e8_0_0_2_0_1 : QL0 PySem.W.Fast.tw7225481918981805544 0 2 0 1 = QR0 0 2 0 1 := by kernel_rfl
theorem e8_0_0_2_1_0 : QL0 PySem.W.Fast.tw7225481918981805544 0 2 1 0 = QR0 0 2 1 0 := by kernel_rfl
theorem e8_0_0_2_1_1 : QL0 PySem.W.Fast.tw7225481918981805544 0 2 1 1 = QR0 0 2 1 1 := by kernel_rfl
theorem e8_0_0_2_2_0 : QL0 PySem.W.Fast.tw7225481918981805544 0 2 2 0 = QR0 0 2 2 0 := by kernel_rfl
theorem e8_0_0_2_2_1 : QL0 PySem.W.Fast.tw7225481918981805544 0 2 2 1 = QR0 0 2 2 1 := by kernel_rfl
theorem e8_0_0 (at_ h a : Nat) (h1 : at_ < 3) (h2 : h < 3) (h3 : a < 2) : QL0 ev8 0 at_ h a = QR0 0 at_ h a := by
  rw [PySem.W.Fast.te7225481918981805544]
  exact match at_, h, a, h1, h2, h3 with
  | 0, 0, 0, _, _, _ => e8_0_0_0_0_0
  | 0, 0, 1, _, _, _ => e8_0_0_0_0_1
  | 0, 1, 0, _, _, _ => e8_0_0_0_1_0
  | 0, 1, 1, _, _, _ => e8_0_0_0_1_1
  | 0, 2, 0, _, _, _ => e8_0_0_0_2_0
  | 0, 2, 1, _, _, _ => e8_0_0_0_2_1
  | 1, 0, 0, _, _, _ => e8_0_0_1_0_0
  | 1, 0, 1, _, _, _ => e8_0_0_1_0_1
  | 1, 1, 0, _, _, _ => e8_0_0_1_1_0
  | 1, 1, 1, _, _, _ => e8_0_0_1_1_1
  | 1, 2, 0, _, _, _ => e8_0_0_1_2_0
  | 1, 2, 1, _, _, _ => e8_0_0_1_2_1
  | 2, 0, 0, _, _, _ => e8_0_0_2_0_0
  | 2, 0, 1, _, _, _ => e8_0_0_2_0_1
  | 2, 1, 0, _, _, _ => e8_0_0_2_1_0
  | 2, 1, 1, _, _, _ => e8_0_0_2_1_1
  | 2, 2, 0, _, _, _ => e8_0_0_2_2_0
  | 2, 2, 1, _, _, _ => e8_0_0_2_2_1
  | at_ + 3, _, _, hh, _, _ => absurd hh (by omega)
  | 0, h + 3, _, _, hh, _ => absurd hh (by omega)
  | 1, h + 3, _, _, hh, _ => absurd hh (by omega)
  | 2, h + 3, _, _, hh, _ => absurd hh (by omega)
  | 0, 0, a + 2, _, _, hh => absurd hh (by omega)
  | 0, 1, a + 2, _, _, hh => absurd hh (by omega)
  | 0, 2, a + 2, _, _, hh => absurd hh (by omega)
  | 1, 0, a + 2, _, _, hh => absurd hh (by omega)
  | 1, 1, a + 2, _, _, hh => absurd hh (by omega)
  | 1, 2, a + 2, _, _, hh => absurd hh (by omega)
  | 2, 0, a + 2, _, _, hh => absurd hh (by omega)
  | 2, 1, a + 2, _, _, hh => absurd hh (by omega)
  | 2, 2, a + 2, _, _, hh => absurd hh (by omega)
theorem e8_0_1_0_0_0 : QL1 PySem.W.Fast.tw7225481918981805544 0 0 0 0 = QR1 0 0 0 0 := by kernel_rfl
theorem e8_0_1_0_0_1 : QL1 PySem.W.Fast.tw7225481918981805544 0 0 0 1 = QR1 0 0 0 1 := by kernel_rfl
theorem e8_0_1_0_0_2 : QL1 PySem.W.Fast.tw7225481918981805544 0 0 0 2 = QR1 0 0 0 2 := by kernel_rfl
theorem e8_0_1_0_1_0 : QL1 PySem.W.Fast.tw7225481918981805544 0 0 1 0 = QR1 0 0 1 0 := by kernel_rfl
theorem e8_0_1_0_1_1 : QL1 PySem.W.Fast.tw7225481918981805544 0 0 1 1 = QR1 0 0 1 1 := by kernel_rfl
theorem e8_0_1_0_1_2 : QL1 PySem.W.Fast.tw7225481918981805544 0 0 1 2 = QR1 0 0 1 2 := by kernel_rfl
theorem e8_0_1_0_2_0 : QL1 PySem.W.Fast.tw7225481918981805544 0 0 2 0 = QR1 0 0 2 0 := by kernel_rfl
theorem e8_0_1_0_2_1 : QL1 PySem.W.Fast.tw7225481918981805544 0 0 2 1 = QR1 0 0 2 1 := by kernel_rfl
theorem e8_0_1_0_2_2 : QL1 PySem.W.Fast.tw7225481918981805544 0 0 2 2 = QR1 0 0 2 2 := by kernel_rfl
theorem e8_0_1_1_0_0 : QL1 PySem.W.Fast.tw7225481918981805544 0 1 0 0 = QR1 0 1 0 0 := by kernel_rfl
theorem e8_0_1_1_0_1 : QL1 PySem.W.Fast.tw7225481918981805544 0 1 0 1 = QR1 0 1 0 1 := by kernel_rfl
theorem e8_0_1_1_0_2 : QL1 PySem.W.Fast.tw7225481918981805544 0 1 0 2 = QR1 0 1 0 2 := by kernel_rfl
theorem e8_0_1_1_1_0 : QL1 PySem.W.Fast.tw7225481918981805544 0 1 1 0 = QR1 0 1 1 0 := by kernel_rfl
theorem e8_0_1_1_1_1 : QL1 PySem.W.Fast.tw7225481918981805544 0 1 1 1 = QR1 0 1 1 1 := by kernel_rfl
theorem e8_0_1_1_1_2 : QL1 PySem.W.Fast.tw7225481918981805544 0 1 1 2 = QR1 0 1 1 2 := by kernel_rfl
theorem e8_0_1_1_2_0 : QL1 PySem.W.Fast.tw7225481918981805544 0 1 2 0 = QR1 0 1 2 0 := by kernel_rfl
theorem e8_0_1_1_2_1 : QL1 PySem.W.Fast.tw7225481918981805544 0 1 2 1 = QR1 0 1 2 1 := by kernel_rfl
theorem e8_0_1_1_2_2 : QL1 PySem.W.Fast.tw7225481918981805544 0 1 2 2 = QR1 0 1 2 2 := by kernel_rfl
theorem e8_0_1_2_0_0 : QL1 PySem.W.Fast.tw7225481918981805544 0 2 0 0 = QR1 0 2 0 0 := by kernel_rfl
theorem e8_0_1_2_0_1 : QL1 PySem.W.Fast.tw7225481918981805544 0 2 0 1 = QR1 0 2 0 1 := by kernel_rfl
theorem e8_0_1_2_0_2 : QL1 PySem.W.Fast.tw7225481918981805544 0 2 0 2 = QR1 0 2 0 2 := by kernel_rfl
theorem e8_0_1_2_1_0 : QL1 PySem.W.Fast.tw7225481918981805544 0 2 1 0 = QR1 0 2 1 0 := by kernel_rfl
theorem e8_0_1_2_1_1 : QL1 PySem.W.Fast.tw7225481918981805544 0 2 1 1 = QR1 0 2 1 1 := by kernel_rfl
theorem e8_0_1_2_1_2 : QL1 PySem.W.Fast.tw7225481918981805544 0 2 1 2 = QR1 0 2 1 2 := by kernel_rfl
theorem e8_0_1_2_2_0 : QL1 PySem.W.Fast.tw7225481918981805544 0 2 2 0 = QR1 0 2 2 0 := by kernel_rfl
theorem e8_0_1_2_2_1 : QL1 PySem.W.Fast.tw7225481918981805544 0 2 2 1 = QR1 0 2 2 1 := by kernel_rfl
theorem e8_0_1_2_2_2 : QL1 PySem.W.Fast.tw7225481918981805544 0 2 2 2 = QR1 0 2 2 2 := by kernel_rfl
theorem e8_0_1 (at_ h a : Nat) (h1 : at_ < 3) (h2 : h < 3) (h3 : a < 3) : QL1 ev8 0 at_ h a = QR1 0 at_ h a := by
  rw [PySem.W.Fast.te7225481918981805544]
  exact match at_, h, a, h1, h2, h3 with
  | 0, 0, 0, _, _, _ => e8_0_1_0_0_0
  | 0, 0, 1, _, _, _ => e8_0_1_0_0_1
  | 0, 0, 2, _, _, _ => e8_0_1_0_0_2
  | 0, 1, 0, _, _, _ => e8_0_1_0_1_0
  | 0, 1, 1, _, _, _ => e8_0_1_0_1_1
  | 0, 1, 2, _, _, _ => e8_0_1_0_1_2
  | 0, 2, 0, _, _, _ => e8_0_1_0_2_0
  | 0, 2, 1, _, _, _ => e8_0_1_0_2_1
  | 0, 2, 2, _, _, _ => e8_0_1_0_2_2
  | 1, 0, 0, _, _, _ => e8_0_1_1_0_0
  | 1, 0, 1, _, _, _ => e8_0_1_1_0_1
  | 1, 0, 2, _, _, _ => e8_0_1_1_0_2
  | 1, 1, 0, _, _, _ => e8_0_1_1_1_0
  | 1, 1, 1, _, _, _ => e8_0_1_1_1_1
  | 1, 1, 2, _, _, _ => e8_0_1_1_1_2
  | 1, 2, 0, _, _, _ => e8_0_1_1_2_0
  | 1, 2, 1, _, _, _ => e8_0_1_1_2_1
  | 1, 2, 2, _, _, _ => e8_0_1_1_2_2
  | 2, 0, 0, _, _, _ => e8_0_1_2_0_0
  | 2, 0, 1, _, _, _ => e8_0_1_2_0_1
  | 2, 0, 2, _, _, _ => e8_0_1_2_0_2
  | 2, 1, 0, _, _, _ => e8_0_1_2_1_0
  | 2, 1, 1, _, _, _ => e8_0_1_2_1_1
  | 2, 1, 2, _, _, _ => e8_0_1_2_1_2
  | 2, 2, 0, _, _, _ => e8_0_1_2_2_0
  | 2, 2, 1, _, _, _ => e8_0_1_2_2_1
  | 2, 2, 2, _, _, _ => e8_0_1_2_2_2
  | at_ + 3, _, _, hh, _, _ => absurd hh (by omega)
  | 0, h + 3, _, _, hh, _ => absurd hh (by omega)
  | 1, h + 3, _, _, hh, _ => absurd hh (by omega)
  | 2, h + 3, _, _, hh, _ => absurd hh (by omega)
  | 0, 0, a + 3, _, _, hh => absurd hh (by omega)
  | 0, 1, a + 3, _, _, hh => absurd hh (by omega)
  | 0, 2, a + 3, _, _, hh => absurd hh (by omega)
  | 1, 0, a + 3, _, _, hh => absurd hh (by omega)
  | 1, 1, a + 3, _, _, hh => absurd hh (by omega)
  | 1, 2, a + 3, _, _, hh => absurd hh (by omega)
  | 2, 0, a + 3, _, _, hh => absurd hh (by omega)
  | 2, 1, a + 3, _, _, hh => absurd hh (by omega)
  | 2, 2, a + 3, _, _, hh => absurd hh (by omega)
end Mine
namespace Mine
theorem e8_1_0_0_0_0 : QL0 PySem.W.Fast.tw7225481918981805544 1 0 0 0 = QR0 1 0 0 0 := by kernel_rfl
theorem e8_1_0_0_0_1 : QL0 PySem.W.Fast.tw7225481918981805544 1 0 0 1 = QR0 1 0 0 1 := by kernel_rfl
theorem e8_1_0_0_1_0 : QL0 PySem.W.Fast.tw7225481918981805544 1 0 1 0 = QR0 1 0 1 0 := by kernel_rfl
theorem e8_1_0_0_1_1 : QL0 PySem.W.Fast.tw7225481918981805544 1 0 1 1 = QR0 1 0 1 1 := by kernel_rfl
theorem e8_1_0_0_2_0 : QL0 PySem.W.Fast.tw7225481918981805544 1 0 2 0 = QR0 1 0 2 0 := by kernel_rfl
theorem e8_1_0_0_2_1 : QL0 PySem.W.Fast.tw7225481918981805544 1 0 2 1 = QR0 1 0 2 1 := by kernel_rfl
theorem e8_1_0_1_0_0 : QL0 PySem.W.Fast.tw7225481918981805544 1 1 0 0 = QR0 1 1 0 0 := by kernel_rfl
theorem e8_1_0_1_0_1 : QL0 PySem.W.Fast.tw7225481918981805544 1 1 0 1 = QR0 1 1 0 1 := by kernel_rfl
theorem e8_1_0_1_1_0 : QL0 PySem.W.Fast.tw7225481918981805544 1 1 1 0 = QR0 1 1 1 0 := by kernel_rfl
theorem e8_1_0_1_1_1 : QL0 PySem.W.Fast.tw7225481918981805544 1 1 1 1 = QR0 1 1 1 1 := by kernel_rfl
theorem e8_1_0_1_2_0 : QL0 PySem.W.Fast.tw7225481918981805544 1 1 2 0 = QR0 1 1 2 0 := by kernel_rfl
theorem e8_1_0_1_2_1 : QL0 PySem.W.Fast.tw7225481918981805544 1 1 2 1 = QR0 1 1 2 1 := by kernel_rfl
theorem e8_1_0_2_0_0 : QL0 PySem.W.Fast.tw7225481918981805544 1 2 0 0 = QR0 1 2 0 0 := by kernel_rfl
theorem e8_1_0_2_0_1 : QL0 PySem.W.Fast.tw7225481918981805544 1 2 0 1 = QR0 1 2 0 1 := by kernel_rfl
theorem e8_1_0_2_1_0 : QL0 PySem.W.Fast.tw7225481918981805544 1 2 1 0 = QR0 1 2 1 0 := by kernel_rfl
theorem e8_1_0_2_1_1 : QL0 PySem.W.Fast.tw7225481918981805544 1 2 1 1 = QR0 1 2 1 1 := by kernel_rfl
theorem e8_1_0_2_2_0 : QL0 PySem.W.Fast.tw7225481918981805544 1 2 2 0 = QR0 1 2 2 0 := by kernel_rfl
theorem e8_1_0_2_2_1 : QL0 PySem.W.Fast.tw7225481918981805544 1 2 2 1 = QR0 1 2 2 1 := by kernel_rfl
theorem e8_1_0 (at_ h a : Nat) (h1 : at_ < 3) (h2 : h < 3) (h3 : a < 2) : QL0 ev8 1 at_ h a = QR0 1 at_ h a := by
  rw [PySem.W.Fast.te7225481918981805544]
  exact match at_, h, a, h1, h2, h3 with
  | 0, 0, 0, _, _, _ => e8_1_0_0_0_0
  | 0, 0, 1, _, _, _ => e8_1_0_0_0_1
  | 0, 1, 0, _, _, _ => e8_1_0_0_1_0
  | 0, 1, 1, _, _, _ => e8_1_0_0_1_1
  | 0, 2, 0, _, _, _ => e8_1_0_0_2_0
  | 0, 2, 1, _, _, _ => e8_1_0_0_2_1
  | 1, 0, 0, _, _, _ => e8_1_0_1_0_0
  | 1, 0, 1, _, _, _ => e8_1_0_1_0_1
  | 1, 1, 0, _, _, _ => e8_1_0_1_1_0
  | 1, 1, 1, _, _, _ => e8_1_0_1_1_1
  | 1, 2, 0, _, _, _ => e8_1_0_1_2_0
  | 1, 2, 1, _, _, _ => e8_1_0_1_2_1
  | 2, 0, 0, _, _, _ => e8_1_0_2_0_0
  | 2, 0, 1, _, _, _ => e8_1_0_2_0_1
  | 2, 1, 0, _, _, _ => e8_1_0_2_1_0
  | 2, 1, 1, _, _, _ => e8_1_0_2_1_1
  | 2, 2, 0, _, _, _ => e8_1_0_2_2_0
  | 2, 2, 1, _, _, _ => e8_1_0_2_2_1
  | at_ + 3, _, _, hh, _, _ => absurd hh (by omega)
  | 0, h + 3, _, _, hh, _ => absurd hh (by omega)
  | 1, h + 3, _, _, hh, _ => absurd hh (by omega)
  | 2, h + 3, _, _, hh, _ => absurd hh (by omega)
  | 0, 0, a + 2, _, _, hh => absurd hh (by omega)
  | 0, 1, a + 2, _, _, hh => absurd hh (by omega)
  | 0, 2, a + 2, _, _, hh => absurd hh (by omega)
  | 1, 0, a + 2, _, _, hh => absurd hh (by omega)
  | 1, 1, a + 2, _, _, hh => absurd hh (by omega)
  | 1, 2, a + 2, _, _, hh => absurd hh (by omega)
  | 2, 0, a + 2, _, _, hh => absurd hh (by omega)
  | 2, 1, a + 2, _, _, hh => absurd hh (by omega)
  | 2, 2, a + 2, _, _, hh => absurd hh (by omega)
theorem e8_1_1_0_0_0 : QL1 PySem.W.Fast.tw7225481918981805544 1 0 0 0 = QR1 1 0 0 0 := by kernel_rfl
theorem e8_1_1_0_0_1 : QL1 PySem.W.Fast.tw7225481918981805544 1 0 0 1 = QR1 1 0 0 1 := by kernel_rfl
theorem e8_1_1_0_0_2 : QL1 PySem.W.Fast.tw7225481918981805544 1 0 0 2 = QR1 1 0 0 2 := by kernel_rfl
theorem e8_1_1_0_1_0 : QL1 PySem.W.Fast.tw7225481918981805544 1 0 1 0 = QR1 1 0 1 0 := by kernel_rfl
theorem e8_1_1_0_1_1 : QL1 PySem.W.Fast.tw7225481918981805544 1 0 1 1 = QR1 1 0 1 1 := by kernel_rfl
theorem e8_1_1_0_1_2 : QL1 PySem.W.Fast.tw7225481918981805544 1 0 1 2 = QR1 1 0 1 2 := by kernel_rfl
theorem e8_1_1_0_2_0 : QL1 PySem.W.Fast.tw7225481918981805544 1 0 2 0 = QR1 1 0 2 0 := by kernel_rfl
theorem e8_1_1_0_2_1 : QL1 PySem.W.Fast.tw7225481918981805544 1 0 2 1 = QR1 1 0 2 1 := by kernel_rfl
theorem e8_1_1_0_2_2 : QL1 PySem.W.Fast.tw7225481918981805544 1 0 2 2 = QR1 1 0 2 2 := by kernel_rfl
theorem e8_1_1_1_0_0 : QL1 PySem.W.Fast.tw7225481918981805544 1 1 0 0 = QR1 1 1 0 0 := by kernel_rfl
theorem e8_1_1_1_0_1 : QL1 PySem.W.Fast.tw7225481918981805544 1 1 0 1 = QR1 1 1 0 1 := by kernel_rfl
theorem e8_1_1_1_0_2 : QL1 PySem.W.Fast.tw7225481918981805544 1 1 0 2 = QR1 1 1 0 2 := by kernel_rfl
theorem e8_1_1_1_1_0 : QL1 PySem.W.Fast.tw7225481918981805544 1 1 1 0 = QR1 1 1 1 0 := by kernel_rfl
theorem e8_1_1_1_1_1 : QL1 PySem.W.Fast.tw7225481918981805544 1 1 1 1 = QR1 1 1 1 1 := by kernel_rfl
theorem e8_1_1_1_1_2 : QL1 PySem.W.Fast.tw7225481918981805544 1 1 1 2 = QR1 1 1 1 2 := by kernel_rfl
theorem e8_1_1_1_2_0 : QL1 PySem.W.Fast.tw7225481918981805544 1 1 2 0 = QR1 1 1 2 0 := by kernel_rfl
theorem e8_1_1_1_2_1 : QL1 PySem.W.Fast.tw7225481918981805544 1 1 2 1 = QR1 1 1 2 1 := by kernel_rfl
theorem e8_1_1_1_2_2 : QL1 PySem.W.Fast.tw7225481918981805544 1 1 2 2 = QR1 1 1 2 2 := by kernel_rfl
theorem e8_1_1_2_0_0 : QL1 PySem.W.Fast.tw7225481918981805544 1 2 0 0 = QR1 1 2 0 0 := by kernel_rfl
theorem e8_1_1_2_0_1 : QL1 PySem.W.Fast.tw7225481918981805544 1 2 0 1 = QR1 1 2 0 1 := by kernel_rfl
theorem e8_1_1_2_0_2 : QL1 PySem.W.Fast.tw7225481918981805544 1 2 0 2 = QR1 1 2 0 2 := by kernel_rfl
theorem e8_1_1_2_1_0 : QL1 PySem.W.Fast.tw7225481918981805544 1 2 1 0 = QR1 1 2 1 0 := by kernel_rfl
theorem e8_1_1_2_1_1 : QL1 PySem.W.Fast.tw7225481918981805544 1 2 1 1 = QR1 1 2 1 1 := by kernel_rfl
theorem e8_1_1_2_1_2 : QL1 PySem.W.Fast.tw7225481918981805544 1 2 1 2 = QR1 1 2 1 2 := by kernel_rfl
theorem e8_1_1_2_2_0 : QL1 PySem.W.Fast.tw7225481918981805544 1 2 2 0 = QR1 1 2 2 0 := by kernel_rfl
theorem e8_1_1_2_2_1 : QL1 PySem.W.Fast.tw7225481918981805544 1 2 2 1 = QR1 1 2 2 1 := by kernel_rfl
theorem e8_1_1_2_2_2 : QL1 PySem.W.Fast.tw7225481918981805544 1 2 2 2 = QR1 1 2 2 2 := by kernel_rfl
theorem e8_1_1 (at_ h a : Nat) (h1 : at_ < 3) (h2 : h < 3) (h3 : a < 3) : QL1 ev8 1 at_ h a = QR1 1 at_ h a := by
  rw [PySem.W.Fast.te7225481918981805544]
  exact match at_, h, a, h1, h2, h3 with
  | 0, 0, 0, _, _, _ => e8_1_1_0_0_0
  | 0, 0, 1, _, _, _ => e8_1_1_0_0_1
  | 0, 0, 2, _, _, _ => e8_1_1_0_0_2
  | 0, 1, 0, _, _, _ => e8_1_1_0_1_0
  | 0, 1, 1, _, _, _ => e8_1_1_0_1_1
  | 0, 1, 2, _, _, _ => e8_1_1_0_1_2
  | 0, 2, 0, _, _, _ => e8_1_1_0_2_0
  | 0, 2, 1, _, _, _ => e8_1_1_0_2_1
  | 0, 2, 2, _, _, _ => e8_1_1_0_2_2
  | 1, 0, 0, _, _, _ => e8_1_1_1_0_0
  | 1, 0, 1, _, _, _ => e8_1_1_1_0_1
  | 1, 0, 2, _, _, _ => e8_1_1_1_0_2
  | 1, 1, 0, _, _, _ => e8_1_1_1_1_0
  | 1, 1, 1, _, _, _ => e8_1_1_1_1_1
  | 1, 1, 2, _, _, _ => e8_1_1_1_1_2
  | 1, 2, 0, _, _, _ => e8_1_1_1_2_0
  | 1, 2, 1, _, _, _ => e8_1_1_1_2_1
  | 1, 2, 2, _, _, _ => e8_1_1_1_2_2
  | 2, 0, 0, _, _, _ => e8_1_1_2_0_0
  | 2, 0, 1, _, _, _ => e8_1_1_2_0_1
  | 2, 0, 2, _, _, _ => e8_1_1_2_0_2
  | 2, 1, 0, _, _, _ => e8_1_1_2_1_0
  | 2, 1, 1, _, _, _ => e8_1_1_2_1_1
  | 2, 1, 2, _, _, _ => e8_1_1_2_1_2
  | 2, 2, 0, _, _, _ => e8_1_1_2_2_0
  | 2, 2, 1, _, _, _ => e8_1_1_2_2_1
  | 2, 2, 2, _, _, _ => e8_1_1_2_2_2
  | at_ + 3, _, _, hh, _, _ => absurd hh (by omega)
  | 0, h + 3, _, _, hh, _ => absurd hh (by omega)
  | 1, h + 3, _, _, hh, _ => absurd hh (by omega)
  | 2, h + 3, _, _, hh, _ => absurd hh (by omega)
  | 0, 0, a + 3, _, _, hh => absurd hh (by omega)
  | 0, 1, a + 3, _, _, hh => absurd hh (by omega)
  | 0, 2, a + 3, _, _, hh => absurd hh (by omega)
  | 1, 0, a + 3, _, _, hh => absurd hh (by omega)
  | 1, 1, a + 3, _, _, hh => absurd hh (by omega)
  | 1, 2, a + 3, _, _, hh => absurd hh (by omega)
  | 2, 0, a + 3, _, _, hh => absurd hh (by omega)
  | 2, 1, a + 3, _, _, hh => absurd hh (by omega)
  | 2, 2, a + 3, _, _, hh => absurd hh (by omega)
end Mine
namespace Mine
theorem e8_2_0_0_0_0 : QL0 PySem.W.Fast.tw7225481918981805544 2 0 0 0 = QR0 2 0 0 0 := by kernel_rfl
theorem e8_2_0_0_0_1 : QL0 PySem.W.Fast.tw7225481918981805544 2 0 0 1 = QR0 2 0 0 1 := by kernel_rfl
theorem e8_2_0_0_1_0 : QL0 PySem.W.Fast.tw7225481918981805544 2 0 1 0 = QR0 2 0 1 0 := by kernel_rfl
theorem e8_2_0_0_1_1 : QL0 PySem.W.Fast.tw7225481918981805544 2 0 1 1 = QR0 2 0 1 1 := by kernel_rfl
theorem e8_2_0_0_2_0 : QL0 PySem.W.Fast.tw7225481918981805544 2 0 2 0 = QR0 2 0 2 0 := by kernel_rfl
theorem e8_2_0_0_2_1 : QL0 PySem.W.Fast.tw7225481918981805544 2 0 2 1 = QR0 2 0 2 1 := by kernel_rfl
theorem e8_2_0_1_0_0 : QL0 PySem.W.Fast.tw7225481918981805544 2 1 0 0 = QR0 2 1 0 0 := by kernel_rfl
theorem e8_2_0_1_0_1 : QL0 PySem.W.Fast.tw7225481918981805544 2 1 0 1 = QR0 2 1 0 1 := by kernel_rfl
theorem e8_2_0_1_1_0 : QL0 PySem.W.Fast.tw7225481918981805544 2 1 1 0 = QR0 2 1 1 0 := by kernel_rfl
theorem e8_2_0_1_1_1 : QL0 PySem.W.Fast.tw7225481918981805544 2 1 1 1 = QR0 2 1 1 1 := by kernel_rfl
theorem e8_2_0_1_2_0 : QL0 PySem.W.Fast.tw7225481918981805544 2 1 2 0 = QR0 2 1 2 0 := by kernel_rfl
theorem e8_2_0_1_2_1 : QL0 PySem.W.Fast.tw7225481918981805544 2 1 2 1 = QR0 2 1 2 1 := by kernel_rfl
theorem e8_2_0_2_0_0 : QL0 PySem.W.Fast.tw7225481918981805544 2 2 0 0 = QR0 2 2 0 0 := by kernel_rfl
theorem e8_2_0_2_0_1 : QL0 PySem.W.Fast.tw7225481918981805544 2 2 0 1 = QR0 2 2 0 1 := by kernel_rfl
theorem e8_2_0_2_1_0 : QL0 PySem.W.Fast.tw7225481918981805544 2 2 1 0 = QR0 2 2 1 0 := by kernel_rfl
theorem e8_2_0_2_1_1 : QL0 PySem.W.Fast.tw7225481918981805544 2 2 1 1 = QR0 2 2 1 1 := by kernel_rfl
theorem e8_2_0_2_2_0 : QL0 PySem.W.Fast.tw7225481918981805544 2 2 2 0 = QR0 2 2 2 0 := by kernel_rfl
theorem e8_2_0_2_2_1 : QL0 PySem.W.Fast.tw7225481918981805544 2 2 2 1 = QR0 2 2 2 1 := by kernel_rfl
theorem e8_2_0 (at_ h a : Nat) (h1 : at_ < 3) (h2 : h < 3) (h3 : a < 2) : QL0 ev8 2 at_ h a = QR0 2 at_ h a := by
  rw [PySem.W.Fast.te7225481918981805544]
  exact match at_, h, a, h1, h2, h3 with
  | 0, 0, 0, _, _, _ => e8_2_0_0_0_0
  | 0, 0, 1, _, _, _ => e8_2_0_0_0_1
  | 0, 1, 0, _, _, _ => e8_2_0_0_1_0
  | 0, 1, 1, _, _, _ => e8_2_0_0_1_1
  | 0, 2, 0, _, _, _ => e8_2_0_0_2_0
  | 0, 2, 1, _, _, _ => e8_2_0_0_2_1
  | 1, 0, 0, _, _, _ => e8_2_0_1_0_0
  | 1, 0, 1, _, _, _ => e8_2_0_1_0_1
  | 1, 1, 0, _, _, _ => e8_2_0_1_1_0
  | 1, 1, 1, _, _, _ => e8_2_0_1_1_1
  | 1, 2, 0, _, _, _ => e8_2_0_1_2_0
  | 1, 2, 1, _, _, _ => e8_2_0_1_2_1
  | 2, 0, 0, _, _, _ => e8_2_0_2_0_0
  | 2, 0, 1, _, _, _ => e8_2_0_2_0_1
  | 2, 1, 0, _, _, _ => e8_2_0_2_1_0
  | 2, 1, 1, _, _, _ => e8_2_0_2_1_1
  | 2, 2, 0, _, _, _ => e8_2_0_2_2_0
  | 2, 2, 1, _, _, _ => e8_2_0_2_2_1
  | at_ + 3, _, _, hh, _, _ => absurd hh (by omega)
  | 0, h + 3, _, _, hh, _ => absurd hh (by omega)
  | 1, h + 3, _, _, hh, _ => absurd hh (by omega)
  | 2, h + 3, _, _, hh, _ => absurd hh (by omega)
  | 0, 0, a + 2, _, _, hh => absurd hh (by omega)
  | 0, 1, a + 2, _, _, hh => absurd hh (by omega)
  | 0, 2, a + 2, _, _, hh => absurd hh (by omega)
  | 1, 0, a + 2, _, _, hh => absurd hh (by omega)
  | 1, 1, a + 2, _, _, hh => absurd hh (by omega)
  | 1, 2, a + 2, _, _, hh => absurd hh (by omega)
  | 2, 0, a + 2, _, _, hh => absurd hh (by omega)
  | 2, 1, a + 2, _, _, hh => absurd hh (by omega)
  | 2, 2, a + 2, _, _, hh => absurd hh (by omega)
theorem e8_2_1_0_0_0 : QL1 PySem.W.Fast.tw7225481918981805544 2 0 0 0 = QR1 2 0 0 0 := by kernel_rfl
theorem e8_2_1_0_0_1 : QL1 PySem.W.Fast.tw7225481918981805544 2 0 0 1 = QR1 2 0 0 1 := by kernel_rfl
theorem e8_2_1_0_0_2 : QL1 PySem.W.Fast.tw7225481918981805544 2 0 0 2 = QR1 2 0 0 2 := by kernel_rfl
theorem e8_2_1_0_1_0 : QL1 PySem.W.Fast.tw7225481918981805544 2 0 1 0 = QR1 2 0 1 0 := by kernel_rfl
theorem e8_2_1_0_1_1 : QL1 PySem.W.Fast.tw7225481918981805544 2 0 1 1 = QR1 2 0 1 1 := by kernel_rfl
theorem e8_2_1_0_1_2 : QL1 PySem.W.Fast.tw7225481918981805544 2 0 1 2 = QR1 2 0 1 2 := by kernel_rfl
theorem e8_2_1_0_2_0 : QL1 PySem.W.Fast.tw7225481918981805544 2 0 2 0 = QR1 2 0 2 0 := by kernel_rfl
theorem e8_2_1_0_2_1 : QL1 PySem.W.Fast.tw7225481918981805544 2 0 2 1 = QR1 2 0 2 1 := by kernel_rfl
theorem e8_2_1_0_2_2 : QL1 PySem.W.Fast.tw7225481918981805544 2 0 2 2 = QR1 2 0 2 2 := by kernel_rfl
theorem e8_2_1_1_0_0 : QL1 PySem.W.Fast.tw7225481918981805544 2 1 0 0 = QR1 2 1 0 0 := by kernel_rfl
theorem e8_2_1_1_0_1 : QL1 PySem.W.Fast.tw7225481918981805544 2 1 0 1 = QR1 2 1 0 1 := by kernel_rfl
theorem e8_2_1_1_0_2 : QL1 PySem.W.Fast.tw7225481918981805544 2 1 0 2 = QR1 2 1 0 2 := by kernel_rfl
theorem e8_2_1_1_1_0 : QL1 PySem.W.Fast.tw7225481918981805544 2 1 1 0 = QR1 2 1 1 0 := by kernel_rfl
theorem e8_2_1_1_1_1 : QL1 PySem.W.Fast.tw7225481918981805544 2 1 1 1 = QR1 2 1 1 1 := by kernel_rfl
theorem e8_2_1_1_1_2 : QL1 PySem.W.Fast.tw7225481918981805544 2 1 1 2 = QR1 2 1 1 2 := by kernel_rfl
theorem e8_2_1_1_2_0 : QL1 PySem.W.Fast.tw7225481918981805544 2 1 2 0 = QR1 2 1 2 0 := by kernel_rfl
theorem e8_2_1_1_2_1 : QL1 PySem.W.Fast.tw7225481918981805544 2 1 2 1 = QR1 2 1 2 1 := by kernel_rfl
theorem e8_2_1_1_2_2 : QL1 PySem.W.Fast.tw7225481918981805544 2 1 2 2 = QR1 2 1 2 2 := by kernel_rfl
theorem e8_2_1_2_0_0 : QL1 PySem.W.Fast.tw7225481918981805544 2 2 0 0 = QR1 2 2 0 0 := by kernel_rfl
theorem e8_2_1_2_0_1 : QL1 PySem.W.Fast.tw7225481918981805544 2 2 0 1 = QR1 2 2 0 1 := by kernel_rfl
theorem e8_2_1_2_0_2 : QL1 PySem.W.Fast.tw7225481918981805544 2 2 0 2 = QR1 2 2 0 2 := by kernel_rfl
theorem e8_2_1_2_1_0 : QL1 PySem.W.Fast.tw7225481918981805544 2 2 1 0 = QR1 2 2 1 0 := by kernel_rfl
theorem e8_2_1_2_1_1 : QL1 PySem.W.Fast.tw7225481918981805544 2 2 1 1 = QR1 2 2 1 1 := by kernel_rfl
theorem e8_2_1_2_1_2 : QL1 PySem.W.Fast.tw7225481918981805544 2 2 1 2 = QR1 2 2 1 2 := by kernel_rfl
theorem e8_2_1_2_2_0 : QL1 PySem.W.Fast.tw7225481918981805544 2 2 2 0 = QR1 2 2 2 0 := by kernel_rfl
theorem e8_2_1_2_2_1 : QL1 PySem.W.Fast.tw7225481918981805544 2 2 2 1 = QR1 2 2 2 1 := by kernel_rfl
theorem e8_2_1_2_2_2 : QL1 PySem.W.Fast.tw7225481918981805544 2 2 2 2 = QR1 2 2 2 2 := by kernel_rfl
theorem e8_2_1 (at_ h a : Nat) (h1 : at_ < 3) (h2 : h < 3) (h3 : a < 3) : QL1 ev8 2 at_ h a = QR1 2 at_ h a := by
  rw [PySem.W.Fast.te7225481918981805544]
  exact match at_, h, a, h1, h2, h3 with
  | 0, 0, 0, _, _, _ => e8_2_1_0_0_0
  | 0, 0, 1, _, _, _ => e8_2_1_0_0_1
  | 0, 0, 2, _, _, _ => e8_2_1_0_0_2
  | 0, 1, 0, _, _, _ => e8_2_1_0_1_0
  | 0, 1, 1, _, _, _ => e8_2_1_0_1_1
  | 0, 1, 2, _, _, _ => e8_2_1_0_1_2
  | 0, 2, 0, _, _, _ => e8_2_1_0_2_0
  | 0, 2, 1, _, _, _ => e8_2_1_0_2_1
  | 0, 2, 2, _, _, _ => e8_2_1_0_2_2
  | 1, 0, 0, _, _, _ => e8_2_1_1_0_0
  | 1, 0, 1, _, _, _ => e8_2_1_1_0_1
  | 1, 0, 2, _, _, _ => e8_2_1_1_0_2
  | 1, 1, 0, _, _, _ => e8_2_1_1_1_0
  | 1, 1, 1, _, _, _ => e8_2_1_1_1_1
  | 1, 1, 2, _, _, _ => e8_2_1_1_1_2
  | 1, 2, 0, _, _, _ => e8_2_1_1_2_0
  | 1, 2, 1, _, _, _ => e8_2_1_1_2_1
  | 1, 2, 2, _, _, _ => e8_2_1_1_2_2
  | 2, 0, 0, _, _, _ => e8_2_1_2_0_0
  | 2, 0, 1, _, _, _ => e8_2_1_2_0_1
  | 2, 0, 2, _, _, _ => e8_2_1_2_0_2
  | 2, 1, 0, _, _, _ => e8_2_1_2_1_0
  | 2, 1, 1, _, _, _ => e8_2_1_2_1_1
  | 2, 1, 2, _, _, _ => e8_2_1_2_1_2
  | 2, 2, 0, _, _, _ => e8_2_1_2_2_0
  | 2, 2, 1, _, _, _ => e8_2_1_2_2_1
  | 2, 2, 2, _, _, _ => e8_2_1_2_2_2
  | at_ + 3, _, _, hh, _, _ => absurd hh (by omega)
  | 0, h + 3, _, _, hh, _ => absurd hh (by omega)
  | 1, h + 3, _, _, hh, _ => absurd hh (by omega)
  | 2, h + 3, _, _, hh, _ => absurd hh (by omega)
  | 0, 0, a + 3, _, _, hh => absurd hh (by omega)
  | 0, 1, a + 3, _, _, hh => absurd hh (by omega)
  | 0, 2, a + 3, _, _, hh => absurd hh (by omega)
  | 1, 0, a + 3, _, _, hh => absurd hh (by omega)
  | 1, 1, a + 3, _, _, hh => absurd hh (by omega)
  | 1, 2, a + 3, _, _, hh => absurd hh (by omega)
  | 2, 0, a + 3, _, _, hh => absurd hh (by omega)
  | 2, 1, a + 3, _, _, hh => absurd hh (by omega)
  | 2, 2, a + 3, _, _, hh => absurd hh (by omega)
end Mine
namespace Mine
theorem e8_3_0_0_0_0 : QL0 PySem.W.Fast.tw7225481918981805544 3 0 0 0 = QR0 3 0 0 0 := by kernel_rfl
theorem e8_3_0_0_0_1 : QL0 PySem.W.Fast.tw7225481918981805544 3 0 0 1 = QR0 3 0 0 1 := by kernel_rfl
theorem e8_3_0_0_1_0 : QL0 PySem.W.Fast.tw7225481918981805544 3 0 1 0 = QR0 3 0 1 0 := by kernel_rfl
theorem e8_3_0_0_1_1 : QL0 PySem.W.Fast.tw7225481918981805544 3 0 1 1 = QR0 3 0 1 1 := by kernel_rfl
theorem e8_3_0_0_2_0 : QL0 PySem.W.Fast.tw7225481918981805544 3 0 2 0 = QR0 3 0 2 0 := by kernel_rfl
theorem e8_3_0_0_2_1 : QL0 PySem.W.Fast.tw7225481918981805544 3 0 2 1 = QR0 3 0 2 1 := by kernel_rfl
theorem e8_3_0_1_0_0 : QL0 PySem.W.Fast.tw7225481918981805544 3 1 0 0 = QR0 3 1 0 0 := by kernel_rfl
theorem e8_3_0_1_0_1 : QL0 PySem.W.Fast.tw7225481918981805544 3 1 0 1 = QR0 3 1 0 1 := by kernel_rfl
theorem e8_3_0_1_1_0 : QL0 PySem.W.Fast.tw7225481918981805544 3 1 1 0 = QR0 3 1 1 0 := by kernel_rfl
theorem e8_3_0_1_1_1 : QL0 PySem.W.Fast.tw7225481918981805544 3 1 1 1 = QR0 3 1 1 1 := by kernel_rfl
theorem e8_3_0_1_2_0 : QL0 PySem.W.Fast.tw7225481918981805544 3 1 2 0 = QR0 3 1 2 0 := by kernel_rfl
theorem e8_3_0_1_2_1 : QL0 PySem.W.Fast.tw7225481918981805544 3 1 2 1 = QR0 3 1 2 1 := by kernel_rfl
theorem e8_3_0_2_0_0 : QL0 PySem.W.Fast.tw7225481918981805544 3 2 0 0 = QR0 3 2 0 0 := by kernel_rfl
theorem e8_3_0_2_0_1 : QL0 PySem.W.Fast.tw7225481918981805544 3 2 0 1 = QR0 3 2 0 1 := by kernel_rfl
theorem e8_3_0_2_1_0 : QL0 PySem.W.Fast.tw7225481918981805544 3 2 1 0 = QR0 3 2 1 0 := by kernel_rfl
theorem e8_3_0_2_1_1 : QL0 PySem.W.Fast.tw7225481918981805544 3 2 1 1 = QR0 3 2 1 1 := by kernel_rfl
theorem e8_3_0_2_2_0 : QL0 PySem.W.Fast.tw7225481918981805544 3 2 2 0 = QR0 3 2 2 0 := by kernel_rfl
theorem e8_3_0_2_2_1 : QL0 PySem.W.Fast.tw7225481918981805544 3 2 2 1 = QR0 3 2 2 1 := by kernel_rfl
theorem e8_3_0 (at_ h a : Nat) (h1 : at_ < 3) (h2 : h < 3) (h3 : a < 2) : QL0 ev8 3 at_ h a = QR0 3 at_ h a := by
  rw [PySem.W.Fast.te7225481918981805544]
  exact match at_, h, a, h1, h2, h3 with
  | 0, 0, 0, _, _, _ => e8_3_0_0_0_0
  | 0, 0, 1, _, _, _ => e8_3_0_0_0_1
  | 0, 1, 0, _, _, _ => e8_3_0_0_1_0
  | 0, 1, 1, _, _, _ => e8_3_0_0_1_1
  | 0, 2, 0, _, _, _ => e8_3_0_0_2_0
  | 0, 2, 1, _, _, _ => e8_3_0_0_2_1
  | 1, 0, 0, _, _, _ => e8_3_0_1_0_0
  | 1, 0, 1, _, _, _ => e8_3_0_1_0_1
  | 1, 1, 0, _, _, _ => e8_3_0_1_1_0
  | 1, 1, 1, _, _, _ => e8_3_0_1_1_1
  | 1, 2, 0, _, _, _ => e8_3_0_1_2_0
  | 1, 2, 1, _, _, _ => e8_3_0_1_2_1
  | 2, 0, 0, _, _, _ => e8_3_0_2_0_0
  | 2, 0, 1, _, _, _ => e8_3_0_2_0_1
  | 2, 1, 0, _, _, _ => e8_3_0_2_1_0
  | 2, 1, 1, _, _, _ => e8_3_0_2_1_1
  | 2, 2, 0, _, _, _ => e8_3_0_2_2_0
  | 2, 2, 1, _, _, _ => e8_3_0_2_2_1
  | at_ + 3, _, _, hh, _, _ => absurd hh (by omega)
  | 0, h + 3, _, _, hh, _ => absurd hh (by omega)
  | 1, h + 3, _, _, hh, _ => absurd hh (by omega)
  | 2, h + 3, _, _, hh, _ => absurd hh (by omega)
  | 0, 0, a + 2, _, _, hh => absurd hh (by omega)
  | 0, 1, a + 2, _, _, hh => absurd hh (by omega)
  | 0, 2, a + 2, _, _, hh => absurd hh (by omega)
  | 1, 0, a + 2, _, _, hh => absurd hh (by omega)
  | 1, 1, a + 2, _, _, hh => absurd hh (by omega)
  | 1, 2, a + 2, _, _, hh => absurd hh (by omega)
  | 2, 0, a + 2, _, _, hh => absurd hh (by omega)
  | 2, 1, a + 2, _, _, hh => absurd hh (by omega)
  | 2, 2, a + 2, _, _, hh => absurd hh (by omega)
theorem e8_3_1_0_0_0 : QL1 PySem.W.Fast.tw7225481918981805544 3 0 0 0 = QR1 3 0 0 0 := by kernel_rfl
theorem e8_3_1_0_0_1 : QL1 PySem.W.Fast.tw7225481918981805544 3 0 0 1 = QR1 3 0 0 1 := by kernel_rfl
theorem e8_3_1_0_0_2 : QL1 PySem.W.Fast.tw7225481918981805544 3 0 0 2 = QR1 3 0 0 2 := by kernel_rfl
theorem e8_3_1_0_1_0 : QL1 PySem.W.Fast.tw7225481918981805544 3 0 1 0 = QR1 3 0 1 0 := by kernel_rfl
theorem e8_3_1_0_1_1 : QL1 PySem.W.Fast.tw7225481918981805544 3 0 1 1 = QR1 3 0 1 1 := by kernel_rfl
theorem e8_3_1_0_1_2 : QL1 PySem.W.Fast.tw7225481918981805544 3 0 1 2 = QR1 3 0 1 2 := by kernel_rfl
theorem e8_3_1_0_2_0 : QL1 PySem.W.Fast.tw7225481918981805544 3 0 2 0 = QR1 3 0 2 0 := by kernel_rfl
theorem e8_3_1_0_2_1 : QL1 PySem.W.Fast.tw7225481918981805544 3 0 2 1 = QR1 3 0 2 1 := by kernel_rfl
theorem e8_3_1_0_2_2 : QL1 PySem.W.Fast.tw7225481918981805544 3 0 2 2 = QR1 3 0 2 2 := by kernel_rfl
theorem e8_3_1_1_0_0 : QL1 PySem.W.Fast.tw7225481918981805544 3 1 0 0 = QR1 3 1 0 0 := by kernel_rfl
theorem e8_3_1_1_0_1 : QL1 PySem.W.Fast.tw7225481918981805544 3 1 0 1 = QR1 3 1 0 1 := by kernel_rfl
theorem e8_3_1_1_0_2 : QL1 PySem.W.Fast.tw7225481918981805544 3 1 0 2 = QR1 3 1 0 2 := by kernel_rfl
theorem e8_3_1_1_1_0 : QL1 PySem.W.Fast.tw7225481918981805544 3 1 1 0 = QR1 3 1 1 0 := by kernel_rfl
theorem e8_3_1_1_1_1 : QL1 PySem.W.Fast.tw7225481918981805544 3 1 1 1 = QR1 3 1 1 1 := by kernel_rfl
theorem e8_3_1_1_1_2 : QL1 PySem.W.Fast.tw7225481918981805544 3 1 1 2 = QR1 3 1 1 2 := by kernel_rfl
theorem e8_3_1_1_2_0 : QL1 PySem.W.Fast.tw7225481918981805544 3 1 2 0 = QR1 3 1 2 0 := by kernel_rfl
theorem e8_3_1_1_2_1 : QL1 PySem.W.Fast.tw7225481918981805544 3 1 2 1 = QR1 3 1 2 1 := by kernel_rfl
theorem e8_3_1_1_2_2 : QL1 PySem.W.Fast.tw7225481918981805544 3 1 2 2 = QR1 3 1 2 2 := by kernel_rfl
theorem e8_3_1_2_0_0 : QL1 PySem.W.Fast.tw7225481918981805544 3 2 0 0 = QR1 3 2 0 0 := by kernel_rfl
theorem e8_3_1_2_0_1 : QL1 PySem.W.Fast.tw7225481918981805544 3 2 0 1 = QR1 3 2 0 1 := by kernel_rfl
theorem e8_3_1_2_0_2 : QL1 PySem.W.Fast.tw7225481918981805544 3 2 0 2 = QR1 3 2 0 2 := by kernel_rfl
theorem e8_3_1_2_1_0 : QL1 PySem.W.Fast.tw7225481918981805544 3 2 1 0 = QR1 3 2 1 0 := by kernel_rfl
theorem e8_3_1_2_1_1 : QL1 PySem.W.Fast.tw7225481918981805544 3 2 1 1 = QR1 3 2 1 1 := by kernel_rfl
theorem e8_3_1_2_1_2 : QL1 PySem.W.Fast.tw7225481918981805544 3 2 1 2 = QR1 3 2 1 2 := by kernel_rfl
theorem e8_3_1_2_2_0 : QL1 PySem.W.Fast.tw7225481918981805544 3 2 2 0 = QR1 3 2 2 0 := by kernel_rfl
theorem e8_3_1_2_2_1 : QL1 PySem.W.Fast.tw7225481918981805544 3 2 2 1 = QR1 3 2 2 1 := by kernel_rfl
theorem e8_3_1_2_2_2 : QL1 PySem.W.Fast.tw7225481918981805544 3 2 2 2 = QR1 3 2 2 2 := by kernel_rfl
theorem e8_3_1 (at_ h a : Nat) (h1 : at_ < 3) (h2 : h < 3) (h3 : a < 3) : QL1 ev8 3 at_ h a = QR1 3 at_ h a := by
  rw [PySem.W.Fast.te7225481918981805544]
  exact match at_, h, a, h1, h2, h3 with
  | 0, 0, 0, _, _, _ => e8_3_1_0_0_0
  | 0, 0, 1, _, _, _ => e8_3_1_0_0_1
  | 0, 0, 2, _, _, _ => e8_3_1_0_0_2
  | 0, 1, 0, _, _, _ => e8_3_1_0_1_0
  | 0, 1, 1, _, _, _ => e8_3_1_0_1_1
  | 0, 1, 2, _, _, _ => e8_3_1_0_1_2
  | 0, 2, 0, _, _, _ => e8_3_1_0_2_0
  | 0, 2, 1, _, _, _ => e8_3_1_0_2_1
  | 0, 2, 2, _, _, _ => e8_3_1_0_2_2
  | 1, 0, 0, _, _, _ => e8_3_1_1_0_0
  | 1, 0, 1, _, _, _ => e8_3_1_1_0_1
  | 1, 0, 2, _, _, _ => e8_3_1_1_0_2
  | 1, 1, 0, _, _, _ => e8_3_1_1_1_0
  | 1, 1, 1, _, _, _ => e8_3_1_1_1_1
  | 1, 1, 2, _, _, _ => e8_3_1_1_1_2
  | 1, 2, 0, _, _, _ => e8_3_1_1_2_0
  | 1, 2, 1, _, _, _ => e8_3_1_1_2_1
  | 1, 2, 2, _, _, _ => e8_3_1_1_2_2
  | 2, 0, 0, _, _, _ => e8_3_1_2_0_0
  | 2, 0, 1, _, _, _ => e8_3_1_2_0_1
  | 2, 0, 2, _, _, _ => e8_3_1_2_0_2
  | 2, 1, 0, _, _, _ => e8_3_1_2_1_0
  | 2, 1, 1, _, _, _ => e8_3_1_2_1_1
  | 2, 1, 2, _, _, _ => e8_3_1_2_1_2
  | 2, 2, 0, _, _, _ => e8_3_1_2_2_0
  | 2, 2, 1, _, _, _ => e8_3_1_2_2_1
  | 2, 2, 2, _, _, _ => e8_3_1_2_2_2
  | at_ + 3, _, _, hh, _, _ => absurd hh (by omega)
  | 0, h + 3, _, _, hh, _ => absurd hh (by omega)
  | 1, h + 3, _, _, hh, _ => absurd hh (by omega)
  | 2, h + 3, _, _, hh, _ => absurd hh (by omega)
  | 0, 0, a + 3, _, _, hh => absurd hh (by omega)
  | 0, 1, a + 3, _, _, hh => absurd hh (by omega)
  | 0, 2, a + 3, _, _, hh => absurd hh (by omega)
  | 1, 0, a + 3, _, _, hh => absurd hh (by omega)
  | 1, 1, a + 3, _, _, hh => absurd hh (by omega)
  | 1, 2, a + 3, _, _, hh => absurd hh (by omega)
  | 2, 0, a + 3, _, _, hh => absurd hh (by omega)
  | 2, 1, a + 3, _, _, hh => absurd hh (by omega)
  | 2, 2, a + 3, _, _, hh => absurd hh (by omega)
end Mine
namespace Mine
section
variable {prog : Program} {w : World} {K : Frag} {sc : Scope} {n : Nat} {σ σ' σ₁ : St}
  {A₀ A : Around} {base h₀ : Heap} {outer : List Env} {fenv env : Env} {L : Addr} {m : Str → Option Value} {ρ : List Addr} {led : List (Addr × Obj)} {h : Heap} {tk : Nat} {z : Shared} {E : Value → Shared → Prop}
/-- a block, and what comes after it -/
theorem sts_app {tp : Tp} {ih : Ih} (G : Good prog w K n ih) {rest : List Stmt} {Q : Flow → Shared → Prop} (R : Room K A₀ A base h₀ outer fenv env L sc n) : ∀ {ss : List Stmt} {σ σ' : St} {ρ : List Addr} {m : Str → Option Value} {led : List (Addr × Obj)} {h : Heap} {tk : Nat}, sts ih sc ss σ = some (.next, σ') → Rel prog w h₀ L env σ ρ m led h →
    (∀ ρ' m' led' h' tk', To prog w h₀ L env σ ρ m led σ' ρ' m' led' h' → wpAny (model prog w) A (execs rest env) Q E (S z h' tk')) → wpAny (model prog w) A (execs (ss ++ rest) env) Q E (S z h tk)
  | [], σ, σ', ρ, m, led, h, tk, e, X, q => by
    cases e
    exact q _ _ _ _ _ (To.refl X)
  | s :: r, σ, σ', ρ, m, led, h, tk, e, X, q => by
    unfold sts at e
    show wpAny (model prog w) A (execs (s :: (r ++ rest)) env) Q E (S z h tk)
    refine wpAny_execs_cons ?_
    split at e
    · next σ₁ he =>
      refine exF_ok G he _ _ _ _ _ _ _ _ _ _ _ _ _ _ _ _ R X fun ρ₁ m₁ led₁ h₁ tk₁ v t₁ V₁ => ?_
      cases V₁
      exact sts_app (tp := tp) G R e t₁.rel fun ρ₂ m₂ led₂ h₂ tk₂ t₂ => q _ _ _ _ _ (t₁.trans t₂)
    · cases e
    · cases e
/-- a step of the law: a block, and then told with less -/
theorem law_step (O : TopOK prog w K tp) {ss rest : List Stmt} {N : St → Nm} {T : List (Nat × AO)} (he : evL ss N σ = some (.next, true, T, σ')) (hc : σ.comp = false) (hb : ∀ s g, ((N s).b ≤ g ∨ g < 85) → getH g T = none)
    {Q : Flow → Shared → Prop} (R : Room K A₀ A base h₀ outer fenv env L lawS 60) (X : Rel prog w h₀ L env σ ρ m led h)
    (q : ∀ ρ' m' led' h' tk', To prog w h₀ L env σ ρ m led σ' ρ' m' led' h' → wpAny (model prog w) A (execs rest env) Q E (S z h' tk')) : wpAny (model prog w) A (execs (ss ++ rest) env) Q E (S z h tk) := by
  unfold evL res at he
  split at he
  · next r hr =>
    obtain ⟨fl, σ₂⟩ := r
    simp only [Option.some.injEq, Prod.mk.injEq] at he
    obtain ⟨rfl, h1, h2, h3⟩ := he
    refine sts_app (tp := tp) (sound O 60) R hr X fun ρ₁ m₁ led₁ h₁ tk₁ t => ?_
    have hc2 : σ₂.comp = false := t.cmp.trans hc
    obtain ⟨ρ₂, t₂⟩ := t.rel.norm hc2 h1 h2 (hb σ₂)
    rw [h3] at t₂
    exact q _ _ _ _ _ (t.trans t₂)
  · cases he
theorem law_body (O : TopOK prog w K tp) {ss : List Stmt} {N : St → Nm} {T : List (Nat × AO)} (he : evL ss N σ = some (.next, true, T, σ')) (hc : σ.comp = false) (hb : ∀ s g, ((N s).b ≤ g ∨ g < 85) → getH g T = none)
    {Q : Flow → Shared → Prop} (R : Room K A₀ A base h₀ outer fenv env L lawS 60) (X : Rel prog w h₀ L env σ ρ m led h)
    (q : ∀ ρ' m' led' h' tk', To prog w h₀ L env σ ρ m led σ' ρ' m' led' h' → Q .next (S z h' tk')) : wpAny (model prog w) A (execs ss env) Q E (S z h tk) := by
  have := law_step (rest := []) (Q := Q) (E := E) (z := z) (tk := tk) O he hc hb R X fun ρ' m' led' h' tk' t => wpAny_execs_nil (q _ _ _ _ _ t)
  rwa [List.append_nil] at this
/-- the same things in another order -/
theorem Rel.same (X : Rel prog w h₀ L env σ ρ m led h) (hc : σ.comp = false) {hp : List (Nat × AO)} (e : ∀ i, getH i hp = getH i σ.heap) (hce : σ.cells = []) : To prog w h₀ L env σ ρ m led { σ with heap := hp } ρ m led h :=
  X.less hc hc rfl (fun _ _ e => e) hce fun i o' e' => ⟨o', .same, by rw [← e]; exact e', rfl⟩
/-- a range's turns -/
theorem range_turns (O : TopOK prog w K tp) (cnt : Nat) (σs : Nat → St) {x : Str} (hx : kindOf lawS x = some .local) {body : List Stmt} {px : Pos} {r : Addr} {t1 t2 t3 : Tok}
    (hcomp : ∀ j, (σs j).comp = false)
    (step : ∀ j, j < cnt → ∀ ρ m led h tk (z : Shared) (E : Value → Shared → Prop) (Q : Flow → Shared → Prop), Rel prog w h₀ L env { σs j with locs := putL x (.int (j : Nat)) (σs j).locs } ρ m led h →
      (∀ ρ' m' led' h' tk', To prog w h₀ L env { σs j with locs := putL x (.int (j : Nat)) (σs j).locs } ρ m led (σs (j + 1)) ρ' m' led' h' → Q .next (S z h' tk')) → wpAny (model prog w) A (execs body env) Q E (S z h tk))
    (R : Room K A₀ A base h₀ outer fenv env L lawS 60) (X : Rel prog w h₀ L env (σs 0) ρ m led h) (hr : IsRange h r 0 (cnt : Nat) 1 t1 t2 t3) (hcnt : cnt ≤ 4)
    {Q : Flow → Shared → Prop}
    (q : ∀ ρ' m' led' h' tk', Rel prog w h₀ L env (σs cnt) ρ' m' led' h' → Q .next (S z h' tk')) :
    wpAny (model prog w) A (pyIter (.ref r)) (fun it s₂ => codeAny (model prog w) A (.forLoop (.Name x px) it body [] env) (fun r s' => match r with | .ok f => Q f s' | .error e => cameBackBy (model prog w) A env E e s') s₂) E (S z h tk) := by
  have hsz : Builtin.Range.rangeSize 0 (cnt : Nat) 1 = (cnt : Int) := by
    rw [rangeSize_one]; split <;> omega
  refine wpAny_pyIter_range (s := S z h tk) hr (small_one (by omega) (by omega) (by omega) (by omega)) ?_
  rw [hsz]
  have F₁ := X.F.push ({ cls := .type "range_iterator", data := .fields #[rawInt 0, rawInt (cnt : Int), rawInt 1] } : Obj)
  have N₁ := News.push X.F X.N ({ cls := .type "range_iterator", data := .fields #[rawInt 0, rawInt (cnt : Int), rawInt 1] } : Obj)
  obtain ⟨tp₁, hit₁⟩ := X.pas F₁ N₁ (lt_size X)
  generalize hit : h.objs.size = it0 at *
  have hne : it0 ≠ env.locals := X.ne_locals (by rw [← hit]; exact lt_size X) (N₁ _ (.head _)).2.1
  refine codeAny_forLoop (fun k s => k ≤ cnt + 1 ∧ 1 ≤ k ∧ ∃ ρ₂ m₂ led₂ h₂ tk₂, s = S z h₂ tk₂ ∧ Rel prog w h₀ L env (σs (cnt + 1 - k)) ρ₂ m₂ led₂ h₂ ∧ (it0, ({ cls := .type "range_iterator", data := .fields #[rawInt ((cnt + 1 - k : Nat) : Int), rawInt ((k - 1 : Nat) : Int), rawInt 1] } : Obj)) ∈ led₂ ∧ it0 ∉ ρ₂) ?_ (cnt + 1)
    ⟨Nat.le_refl _, by omega, _, _, _, _, _, rfl, by rw [Nat.sub_self]; exact tp₁.rel, by rw [Nat.sub_self]; exact .head _, hit₁⟩ (fun v => rfl)
  rintro k s ⟨hk, hk1, ρ₂, m₂, led₂, h₂, tk₂, rfl, X₂, mi, ni⟩
  have hget : IsRangeIter h₂ it0 ((cnt + 1 - k : Nat) : Int) ((k - 1 : Nat) : Int) 1 := (X₂.N _ mi).1
  by_cases hk2 : k = 1
  · subst hk2
    refine wpAny_pyNext_range_end (s := S z h₂ tk₂) R.hand hget (by simp) fun h' hx' => wpAny_execs_nil ?_
    have X₃ := X₂.drop mi ni (fun e => absurd e (by rw [hcomp]; decide)) (fun its ep e => by
      have e' : Value.type "range_iterator" = Value.type "list" := congrArg Obj.cls e
      exact absurd (Value.type.inj e') (by decide)) hx'
    rw [show cnt + 1 - 1 = cnt by omega] at X₃
    exact q _ _ _ _ _ X₃
  · have hlt : cnt + 1 - k < cnt := by omega
    refine wpAny_pyNext_range_item (s := S z h₂ tk₂) hget (by omega) fun h' hit' hs' => ?_
    have hob' : h'.get? it0 = some ({ cls := .type "range_iterator", data := .fields #[rawInt ((cnt + 1 - (k - 1) : Nat) : Int), rawInt ((k - 1 - 1 : Nat) : Int), rawInt 1] } : Obj) := by
      have e1 : ((cnt + 1 - k : Nat) : Int) + 1 = ((cnt + 1 - (k - 1) : Nat) : Int) := by omega
      have e2 : ((k - 1 : Nat) : Int) - 1 = ((k - 1 - 1 : Nat) : Int) := by omega
      rw [e1, e2] at hit'; exact hit'
    have X₃ := X₂.pasSet mi ni hne (fun its ep e => by
      have e' : Value.type "range_iterator" = Value.type "list" := congrArg Obj.cls e
      exact absurd (Value.type.inj e') (by decide)) (X₂.F.change hs' (X₂.N _ mi).2.1 (X₂.N _ mi).2.2) (news_setN X₂.nd X₂.N mi hs' hob')
    have mi' := setN_here (o' := ({ cls := .type "range_iterator", data := .fields #[rawInt ((cnt + 1 - (k - 1) : Nat) : Int), rawInt ((k - 1 - 1 : Nat) : Int), rawInt 1] } : Obj)) mi
    refine wpAny_assign_Name (snd_store (a := .int ((cnt + 1 - k : Nat) : Int)) (σ' := { σs (cnt + 1 - k) with locs := putL x (.int ((cnt + 1 - k : Nat) : Int)) (σs (cnt + 1 - k)).locs }) (by unfold store; rw [hx]) R X₃ ⟨_, rfl⟩ fun ρ₄ m₄ led₄ h₄ tk₄ t₄ => ?_)
    refine step _ hlt _ _ _ _ _ _ _ _ t₄.rel fun ρ₅ m₅ led₅ h₅ tk₅ t₅ => ?_
    have k4 := t₄.keep _ mi' ni hne
    have k5 := t₅.keep _ k4.1 k4.2 hne
    refine ⟨k - 1, by omega, by omega, by omega, ρ₅, m₅, led₅, h₅, tk₅, rfl, ?_, k5.1, k5.2⟩
    rw [show cnt + 1 - (k - 1) = cnt + 1 - k + 1 by omega]
    exact t₅.rel
end
end Mine
namespace Mine
section
variable {prog : Program} {w : World} {K : Frag} {sc : Scope} {n : Nat} {σ σ' σ₁ : St}
  {A₀ A : Around} {base h₀ : Heap} {outer : List Env} {fenv env : Env} {L : Addr} {m : Str → Option Value} {ρ : List Addr} {led : List (Addr × Obj)} {h : Heap} {tk : Nat} {z : Shared} {E : Value → Shared → Prop}
/-- a list's turns, each an old tuple whose parts are stored -/
theorem names_turns (O : TopOK prog w K tp) (xs : List AV) (l nb : Nat) (σs σm : Nat → St) {ts : List PySem.Expr} {body : List Stmt} {tk1 : Nat} {tpos : Pos} {rl : Addr}
    (hcomp : ∀ j, (σs j).comp = false) (hl : ∀ j, j ≤ xs.length → (σs j).obj l = some (.list xs true nb))
    (htup : ∀ j v, xs[j]? = some v → ∃ t vs, v = .ref t ∧ (σs j).obj t = some (.tup vs) ∧ stores lawS ts vs (σs j) = some (σm j))
    (step : ∀ j, j < xs.length → ∀ ρ m led h tk (z : Shared) (E : Value → Shared → Prop) (Q : Flow → Shared → Prop), Rel prog w h₀ L env (σm j) ρ m led h →
      (∀ ρ' m' led' h' tk', To prog w h₀ L env (σm j) ρ m led (σs (j + 1)) ρ' m' led' h' → Q .next (S z h' tk')) → wpAny (model prog w) A (execs body env) Q E (S z h tk))
    (R : Room K A₀ A base h₀ outer fenv env L lawS 60) (X : Rel prog w h₀ L env (σs 0) ρ m led h) (g : ρ[l]? = some rl)
    {Q : Flow → Shared → Prop}
    (q : ∀ ρ' m' led' h' tk', Rel prog w h₀ L env (σs xs.length) ρ' m' led' h' → Q .next (S z h' tk')) :
    wpAny (model prog w) A (pyIter (.ref rl)) (fun it s₂ => codeAny (model prog w) A (.forLoop (.Tuple ts tk1 tpos) it body [] env) (fun r s' => match r with | .ok f => Q f s' | .error e => cameBackBy (model prog w) A env E e s') s₂) E (S z h tk) := by
  obtain ⟨ob0, hm0, its0, ep0, rfl, _⟩ := X.obj (hl 0 (Nat.zero_le _)) g
  refine wpAny_pyIter_list (s := S z h tk) (list_at X.N hm0) ?_
  have F₁ := X.F.push ({ cls := .type "list_iterator", data := .fields #[.ref rl, .int 0 0] } : Obj)
  have N₁ := News.push X.F X.N ({ cls := .type "list_iterator", data := .fields #[.ref rl, .int 0 0] } : Obj)
  obtain ⟨tp₁, hit₁⟩ := X.pas F₁ N₁ (lt_size X)
  generalize hit : h.objs.size = it0 at *
  have hne : it0 ≠ env.locals := X.ne_locals (by rw [← hit]; exact lt_size X) (N₁ _ (.head _)).2.1
  refine codeAny_forLoop_any (fun k s => ∃ i ρ₂ m₂ led₂ h₂ tk₂ itob, k = xs.length - i ∧ i ≤ xs.length ∧ s = S z h₂ tk₂ ∧ Rel prog w h₀ L env (σs i) ρ₂ m₂ led₂ h₂ ∧ ρ₂[l]? = some rl ∧ (it0, itob) ∈ led₂ ∧ it0 ∉ ρ₂ ∧ IterOb rl i itob) ?_ xs.length
    ⟨0, ρ, m, _, _, _, _, rfl, Nat.zero_le _, rfl, tp₁.rel, g, .head _, hit₁, ⟨rfl, rfl⟩⟩
  rintro k s ⟨i, ρ₂, m₂, led₂, h₂, tk₂, itob, rfl, hi, rfl, X₂, g₂, mi, ni, hio⟩
  refine turn_ok R X₂ (hl i hi) g₂ mi ni hio hne ?_ ?_ (fun _ => rfl)
  · intro v u h' itob' hv hu X' mi' hio'
    have hlt : i < xs.length := (List.getElem?_eq_some_iff.mp hv).1
    obtain ⟨t, vs, rfl, ht, hst⟩ := htup i v hv
    obtain ⟨ra, g3, rfl⟩ := hu
    refine letGo_listiter (t := rl) (i := i + 1) ⟨itob', (X'.N _ mi').1, hio'.1, hio'.2⟩ ?_
    obtain ⟨ob, hm, its, rfl, gt⟩ := X'.obj ht g3
    have ha := assignEach_names env hst
    refine unpackN_ (s := S z h' tk₂) X'.F X'.N (tup_at X'.N hm) R.hand (by rw [ha.1]; have := lrel_len gt; simpa using this.symm) ha.2 fun h'' F'' N'' => ?_
    have X'' := X'.heap F'' N''
    refine stores_ok R hst X'' gt fun ρ₄ m₄ led₄ h₄ tk₄ t₄ => ?_
    refine step i hlt _ _ _ _ _ _ _ _ t₄.rel fun ρ₅ m₅ led₅ h₅ tk₅ t₅ => ?_
    have k4 := t₄.keep _ mi' ni hne
    have k5 := t₅.keep _ k4.1 k4.2 hne
    refine ⟨xs.length - (i + 1), by omega, i + 1, ρ₅, m₅, led₅, h₅, tk₅, itob', rfl, hlt, rfl, t₅.rel, ?_, k5.1, k5.2, hio'⟩
    obtain ⟨r4, e4⟩ := t₄.pre
    obtain ⟨r5, e5⟩ := t₅.pre
    rw [e5, e4]; exact pre_get (pre_get g₂)
  · intro h' hv hx
    have hi' : i = xs.length := by have := List.getElem?_eq_none_iff.mp hv; omega
    subst hi'
    refine wpAny_execs_nil (q _ _ _ _ _ (X₂.drop mi ni (fun e => absurd e (by rw [hcomp]; decide)) hio.nolist hx))
end
end Mine
namespace Mine
/-- the law's statements -/
theorem law_form : ∃ p1 p2 p9 p10 p11 p12 p13 p14 p15 p16 p17 p18 k3 k4, nthT lawB 1 = sE1 ++ (sE2 ++ (sE3 ++ (sE4 ++ (.For (.Name ("turn" : Str) p1) (.Call (.Name ("range" : Str) p2) [rArg] [] p9) sE5 [] p10 ::
   (sE7 ++ (.For (.Tuple [.Name ("name" : Str) p11, .Name ("number" : Str) p12, .Name ("at" : Str) p13] k3 p14) (.Name ("names" : Str) p15) sE8 [] p16 :: [.Return (some (.Constant (.bool true) k4 p17)) p18])))))) :=
  ⟨_, _, _, _, _, _, _, _, _, _, _, _, _, _, rfl⟩
theorem law_kinds : (kindOf lawS ("turn" : Str), kindOf lawS ("name" : Str), kindOf lawS ("number" : Str), kindOf lawS ("at" : Str), kindOf lawS ("vial" : Str), kindOf lawS ("names" : Str), kindOf lawS ("_law_drop" : Str), kindOf lawS ("range" : Str), kindOf lawS ("script" : Str), lawS.kind) =
  (some .local, some .local, some .local, some .local, some .local, some .local, some .globalImplicit, some .globalImplicit, some .local, .function) := by kernel_rfl
end Mine
namespace Mine
noncomputable def rng (lo hi : Nat) (T : List (Nat × AO)) : Bool := T.all fun p => Nat.ble lo p.1 && Nat.blt p.1 hi
theorem rng_none {lo hi : Nat} {g : Nat} (hg : hi ≤ g ∨ g < lo) : ∀ {T : List (Nat × AO)}, rng lo hi T = true → getH g T = none
  | [], _ => rfl
  | (i, o) :: r, h => by
    unfold rng at h
    rw [List.all_cons, Bool.and_eq_true, Bool.and_eq_true] at h
    have h1 : lo ≤ i := Nat.le_of_ble_eq_true h.1.1
    have h2 : i < hi := blt_lt h.1.2
    have hne : g ≠ i := by omega
    show (bif Nat.beq g i then some o else getH g r) = none
    rw [nbeq hne, cond_false]
    exact rng_none hg h.2
theorem rng_app {lo hi : Nat} {A B : List (Nat × AO)} (h1 : rng lo hi A = true) (h2 : rng lo hi B = true) : rng lo hi (A ++ B) = true := by
  unfold rng at *
  rw [List.all_append, h1, h2]; rfl
theorem rng_mono {lo hi lo' hi' : Nat} (h1 : lo' ≤ lo) (h2 : hi ≤ hi') {T : List (Nat × AO)} (h : rng lo hi T = true) : rng lo' hi' T = true := by
  unfold rng at *
  refine List.all_eq_true.mpr fun p hp => ?_
  have := List.all_eq_true.mp h p hp
  rw [Bool.and_eq_true] at this ⊢
  have a := Nat.le_of_ble_eq_true this.1
  have b := blt_lt this.2
  exact ⟨Nat.ble_eq_true_of_le (Nat.le_trans h1 a), Nat.ble_eq_true_of_le (Nat.lt_of_lt_of_le b h2)⟩
noncomputable def Has (X T : List (Nat × AO)) : Prop := ∀ i o, getH i X = some o → getH i T = some o
theorem Has.left {A B : List (Nat × AO)} : Has A (A ++ B) := fun i o h => getH_left h
theorem Has.right {X A B : List (Nat × AO)} {lo hi lo' hi' : Nat} (h : Has X B) (hX : rng lo hi X = true) (hA : rng lo' hi' A = true) (hd : hi ≤ lo' ∨ hi' ≤ lo) : Has X (A ++ B) := fun i o e => by
  rw [getH_right]
  · exact h i o e
  · refine rng_none ?_ hA
    by_cases h1 : lo ≤ i ∧ i < hi
    · omega
    · have : getH i X = none := rng_none (lo := lo) (hi := hi) (by omega) hX
      rw [this] at e; cases e
theorem front_same {X T : List (Nat × AO)} (h : Has X T) : ∀ (F : List (Nat × AO)) (i : Nat), getH i (F ++ (X ++ T)) = getH i (F ++ T)
  | [], i => by
    show getH i (X ++ T) = getH i T
    cases e : getH i X with
    | none => exact getH_right e
    | some o => rw [getH_left e, h i o e]
  | (j, p) :: r, i => by
    show (bif Nat.beq i j then some p else getH i (r ++ (X ++ T))) = (bif Nat.beq i j then some p else getH i (r ++ T))
    rw [front_same h r i]
noncomputable def TT (a y : Nat) (ot : Nat → Bool) (at_ : Nat → Nat) : Nat → List (Nat × AO)
  | 0 => cfgT y ++ cfgS a
  | j + 1 => seg j (ot j) (at_ j) ++ TT a y ot at_ j
theorem cfgS_rng : ∀ a, rng 85 95 (cfgS a) = true
  | 0 => rfl
  | _ + 1 => rfl
theorem cfgT_rng : ∀ y, rng 95 106 (cfgT y) = true
  | 0 => rfl
  | 1 => rfl
  | _ + 2 => rfl
theorem seg_rng {ot : Bool} {at_ : Nat} : ∀ {j : Nat}, j < 4 → rng (117 + 14 * j) (117 + 14 * (j + 1)) (seg j ot at_) = true
  | 0, _ => rfl
  | 1, _ => rfl
  | 2, _ => rfl
  | 3, _ => rfl
  | j + 4, h => absurd h (by omega)
theorem TT_rng {a y : Nat} {ot : Nat → Bool} {at_ : Nat → Nat} : ∀ {j : Nat}, j ≤ 4 → rng 85 (117 + 14 * j) (TT a y ot at_ j) = true
  | 0, _ => rng_app (rng_mono (by omega) (by omega) (cfgT_rng y)) (rng_mono (by omega) (by omega) (cfgS_rng a))
  | j + 1, h => rng_app (rng_mono (by omega) (by omega) (seg_rng (by omega))) (rng_mono (by omega) (by omega) (TT_rng (by omega)))
theorem TT_none {a y : Nat} {ot : Nat → Bool} {at_ : Nat → Nat} {j b : Nat} (h : j ≤ 4) (hb : 117 + 14 * j ≤ b) : ∀ g, (b ≤ g ∨ g < 85) → getH g (TT a y ot at_ j) = none := fun g hg => rng_none (by omega) (TT_rng h)
theorem TT_cfgS {a y : Nat} {ot : Nat → Bool} {at_ : Nat → Nat} : ∀ {j : Nat}, j ≤ 4 → Has (cfgS a) (TT a y ot at_ j)
  | 0, _ => Has.right (fun _ _ e => e) (cfgS_rng a) (cfgT_rng y) (by omega)
  | j + 1, h => Has.right (TT_cfgS (by omega)) (cfgS_rng a) (seg_rng (by omega)) (by omega)
theorem TT_cfgT {a y : Nat} {ot : Nat → Bool} {at_ : Nat → Nat} : ∀ {j : Nat}, j ≤ 4 → Has (cfgT y) (TT a y ot at_ j)
  | 0, _ => Has.left
  | j + 1, h => Has.right (TT_cfgT (by omega)) (cfgT_rng y) (seg_rng (by omega)) (by omega)
theorem TT_seg {a y : Nat} {ot : Nat → Bool} {at_ : Nat → Nat} {i : Nat} : ∀ {j : Nat}, j ≤ 4 → i < j → Has (seg i (ot i) (at_ i)) (TT a y ot at_ j)
  | 0, _, h => absurd h (by omega)
  | j + 1, h, hi => by
    by_cases e : i = j
    · subst e; exact Has.left
    · exact Has.right (TT_seg (by omega) (by omega)) (seg_rng (by omega)) (seg_rng (by omega)) (by omega)
theorem Has.app {X Y T : List (Nat × AO)} (h1 : Has X T) (h2 : Has Y T) : Has (X ++ Y) T := fun i o e => by
  rcases getH_app e with e | ⟨_, e⟩
  · exact h1 i o e
  · exact h2 i o e
/-- what the draws are -/
noncomputable def dsT (cs : List Int) : Nat → Nat → List (Int × Int)
  | p, 0 => [(3, dropOf cs p 3)]
  | p, n + 1 => (2, dropOf cs p 2) :: (3, dropOf cs (p + 1) 3) :: dsT cs (p + 2) n
theorem dsT_draws {cs : List Int} : ∀ {n p : Nat}, Draws cs p (dsT cs p n)
  | 0, p => ⟨rfl, trivial⟩
  | n + 1, p => ⟨rfl, rfl, dsT_draws⟩
theorem dsT_len {cs : List Int} : ∀ {n p : Nat}, (dsT cs p n).length = 2 * n + 1
  | 0, p => rfl
  | n + 1, p => by show (dsT cs (p + 2) n).length + 1 + 1 = _; rw [dsT_len]; omega
theorem drop_rng {cs : List Int} {k : Nat} {m : Int} (hm : 0 < m) : 0 ≤ dropOf cs k m ∧ dropOf cs k m < m := by
  unfold dropOf
  split <;> exact ⟨Int.fmod_nonneg_of_pos _ hm, Int.fmod_lt_of_pos _ hm⟩
theorem drop2 (cs : List Int) (k : Nat) : ∃ b : Nat, b < 2 ∧ dropOf cs k 2 = (b : Int) := by
  have := drop_rng (cs := cs) (k := k) (m := 2) (by decide)
  exact ⟨(dropOf cs k 2).toNat, by omega, by omega⟩
theorem drop3 (cs : List Int) (k : Nat) : ∃ b : Nat, b < 3 ∧ dropOf cs k 3 = (b : Int) := by
  have := drop_rng (cs := cs) (k := k) (m := 3) (by decide)
  exact ⟨(dropOf cs k 3).toNat, by omega, by omega⟩
theorem drop4 (cs : List Int) (k : Nat) : ∃ b : Nat, b < 4 ∧ dropOf cs k 4 = (b : Int) := by
  have := drop_rng (cs := cs) (k := k) (m := 4) (by decide)
  exact ⟨(dropOf cs k 4).toNat, by omega, by omega⟩
theorem ints_to : ∀ {vs : List Value} {cs : List Int}, IntsAre vs cs → intsAre cs vs
  | _, _, .nil => trivial
  | _, _, .cons n t h => ⟨rfl, ints_to h⟩
end Mine
namespace Mine
noncomputable def mM : Nat → Int
  | 0 => 8
  | j + 1 => mM j + 1
noncomputable def vv (n : Nat) (at_ : Nat → Nat) (x i : Nat) : Option AV := bif Nat.blt i n then hereV (at_ i) x i else none
noncomputable def vc (n i : Nat) : Option AV := bif Nat.blt i n then some (.int 1) else none
theorem vv_lt {n i x : Nat} {at_ : Nat → Nat} (h : i < n) : vv n at_ x i = hereV (at_ i) x i := by
  unfold vv; rw [show Nat.blt i n = true from Nat.ble_eq_true_of_le h]; rfl
theorem mM_eq : ∀ k, mM k = Int.ofNat (k + 8)
  | 0 => rfl
  | k + 1 => by
    show mM k + 1 = _
    rw [mM_eq k]; rfl
noncomputable def otB (ot : Nat → Nat) (j : Nat) : Bool := Nat.beq (ot j) 1
noncomputable def CTv (j : Nat) (y : Nat) (at_ : Nat → Nat) (a : Nat) (ot : Nat → Nat) (ds : List (Int × Int)) : St :=
  CT j (mM j) (y : Int) (namesL j) ds (vv j at_ 2 0) (vv j at_ 2 1) (vv j at_ 2 2) (vv j at_ 2 3) (vv j at_ 0 0) (vv j at_ 0 1) (vv j at_ 0 2) (vv j at_ 0 3) (vv j at_ 1 0) (vv j at_ 1 1) (vv j at_ 1 2) (vv j at_ 1 3) (vc j 0) (vc j 1) (vc j 2) (vc j 3) (valS a) (valS a) (valT y) (valT y) (TT a y (otB ot) at_ j)
theorem e5_all {ot at_ : Nat → Nat} (hot : ∀ j, ot j < 2) (hat : ∀ j, at_ j < 3) (a y : Nat) (ds : List (Int × Int)) : ∀ {j : Nat}, j < 4 → evL sE5 (fun _ => N5 j 62) (putTurn j (CTv j y at_ a ot ((2, (ot j : Int)) :: (3, (at_ j : Int)) :: ds))) = some (.next, true, TT a y (otB ot) at_ j, CTv (j + 1) y at_ a ot ds)
  | 0, _ => e5_0 (ot 0) (at_ 0) (hot 0) (hat 0) _ _ _ _ _ _ _ _
  | 1, _ => e5_1 (ot 1) (at_ 1) (hot 1) (hat 1) _ _ _ _ _ _ _ _ _ _ _ _
  | 2, _ => e5_2 (ot 2) (at_ 2) (hot 2) (hat 2) _ _ _ _ _ _ _ _ _ _ _ _ _ _ _ _
  | 3, _ => e5_3 (ot 3) (at_ 3) (hot 3) (hat 3) _ _ _ _ _ _ _ _ _ _ _ _ _ _ _ _ _ _ _ _
  | j + 4, h => absurd h (by omega)
theorem e2_all : ∀ {a : Nat} (ds : List (Int × Int)), a < 2 → ∃ k, evL sE2 (fun _ => N2 a k) (B0 ((2, (a : Int)) :: ds)) = some (.next, true, [], B1 ds (valS a) (valS a) (cfgS a))
  | 0, ds, _ => ⟨42, e2_0 ds⟩
  | 1, ds, _ => ⟨52, e2_1 ds⟩
  | a + 2, _, h => absurd h (by omega)
theorem e3_all : ∀ {y a : Nat} (ds : List (Int × Int)), y < 3 → a < 2 → ∃ k, evL sE3 (fun _ => N3 y k) (B1 ((3, (y : Int)) :: ds) (valS a) (valS a) (cfgS a)) = some (.next, true, cfgS a, B2 ds (y : Int) (valS a) (valS a) (valT y) (valT y) (cfgT y ++ cfgS a))
  | 0, a, ds, _, _ => ⟨42, e3_0 ds _ _ _⟩
  | 1, 0, ds, _, _ => ⟨53, e3_1_0 ds _ _⟩
  | 1, 1, ds, _, _ => ⟨53, e3_1_1 ds _ _⟩
  | 2, a, ds, _, _ => ⟨52, e3_2 ds _ _ _⟩
  | 1, a + 2, _, _, h => absurd h (by omega)
  | y + 3, _, _, h, _ => absurd h (by omega)
theorem e4_all {y a : Nat} {ot at_ : Nat → Nat} (ds : List (Int × Int)) : evL sE4 (fun _ => N4 52) (B2 ds (y : Int) (valS a) (valS a) (valT y) (valT y) (cfgT y ++ cfgS a)) = some (.next, true, cfgT y ++ cfgS a, CTv 0 y at_ a ot ds) := e4 ds _ _ _ _ _ _
theorem e6_all {y a : Nat} {ot at_ : Nat → Nat} (ds : List (Int × Int)) : ∀ {k : Nat}, k < 4 → ∃ σ, (chk N6 (CTv (k + 1) y at_ a ot ds), dropH N6.k (CTv (k + 1) y at_ a ot ds).heap, norm N6 (CTv (k + 1) y at_ a ot ds)) = (true, TT a y (otB ot) at_ (k + 1), σ) ∧
   σ = CE (Int.ofNat (k + 1 + 8)) (y : Int) (namesL (k + 1)) ds (vv (k + 1) at_ 2 0) (vv (k + 1) at_ 2 1) (vv (k + 1) at_ 2 2) (vv (k + 1) at_ 2 3) (vv (k + 1) at_ 0 0) (vv (k + 1) at_ 0 1) (vv (k + 1) at_ 0 2) (vv (k + 1) at_ 0 3) (vv (k + 1) at_ 1 0) (vv (k + 1) at_ 1 1) (vv (k + 1) at_ 1 2) (vv (k + 1) at_ 1 3) (vc (k + 1) 0) (vc (k + 1) 1) (vc (k + 1) 2) (vc (k + 1) 3) (valS a) (valS a) (valT y) (valT y) (TT a y (otB ot) at_ (k + 1))
  | 0, _ => ⟨_, e6_0 _ _ _ _ _ _ _ _ _ _ _ _ _ _ _ _ _ _ _ _ _ _ _ _ _, by rw [mM_eq]⟩
  | 1, _ => ⟨_, e6_1 _ _ _ _ _ _ _ _ _ _ _ _ _ _ _ _ _ _ _ _ _ _ _ _ _, by rw [mM_eq]⟩
  | 2, _ => ⟨_, e6_2 _ _ _ _ _ _ _ _ _ _ _ _ _ _ _ _ _ _ _ _ _ _ _ _ _, by rw [mM_eq]⟩
  | 3, _ => ⟨_, e6_3 _ _ _ _ _ _ _ _ _ _ _ _ _ _ _ _ _ _ _ _ _ _ _ _ _, by rw [mM_eq]⟩
  | k + 4, h => absurd h (by omega)
noncomputable def CQv (i h k y : Nat) (at_ : Nat → Nat) (a : Nat) (ds : List (Int × Int)) (T : List (Nat × AO)) : St :=
  CQ i h k (y : Int) (namesL k) ds (vv k at_ 2 0) (vv k at_ 2 1) (vv k at_ 2 2) (vv k at_ 2 3) (vv k at_ 0 0) (vv k at_ 0 1) (vv k at_ 0 2) (vv k at_ 0 3) (vv k at_ 1 0) (vv k at_ 1 1) (vv k at_ 1 2) (vv k at_ 1 3) (vc k 0) (vc k 1) (vc k 2) (vc k 3) (valS a) (valS a) (valT y) (valT y) T
theorem same_front {A B : List (Nat × AO)} (h : ∀ i, getH i A = getH i B) : ∀ (F : List (Nat × AO)) (i : Nat), getH i (F ++ A) = getH i (F ++ B)
  | [], i => h i
  | (j, p) :: r, i => by
    show (bif Nat.beq i j then some p else getH i (r ++ A)) = (bif Nat.beq i j then some p else getH i (r ++ B))
    rw [same_front h r i]
theorem CQ_same {i h k y : Nat} {at_ : Nat → Nat} {a : Nat} {ds : List (Int × Int)} {T T' : List (Nat × AO)} (e : ∀ i, getH i T' = getH i T) : ∀ x, getH x (CQv i h k y at_ a ds T').heap = getH x (CQv i h k y at_ a ds T).heap := by
  intro x
  refine same_front (fun i => same_front (fun i => same_front (fun i => ?_) _ i) _ i) _ x
  show (bif Nat.beq i 115 then _ else getH i T') = (bif Nat.beq i 115 then _ else getH i T)
  rw [e i]
theorem two_front {X Y T : List (Nat × AO)} (hX : Has X T) (hY : Has Y T) (i : Nat) : getH i (X ++ (Y ++ T)) = getH i T := by
  have h1 : ∀ i, getH i (Y ++ T) = getH i T := fun i => front_same hY [] i
  exact (same_front h1 X i).trans (front_same hX [] i)
noncomputable def cfgX (o : Nat) (a y : Nat) : List (Nat × AO) := bif Nat.beq o 1 then cfgT y else cfgS a
noncomputable def dsL (ot at_ : Nat → Nat) (hr : Nat) : Nat → Nat → List (Int × Int)
  | _, 0 => [(3, (hr : Int))]
  | j, n + 1 => (2, (ot j : Int)) :: (3, (at_ j : Int)) :: dsL ot at_ hr (j + 1) n
theorem names_len : ∀ {k : Nat}, k ≤ 4 → (namesL k).length = k
  | 0, _ => rfl
  | 1, _ => rfl
  | 2, _ => rfl
  | 3, _ => rfl
  | 4, _ => rfl
  | k + 5, h => absurd h (by omega)
theorem names_at : ∀ {k j : Nat} {v : AV}, k ≤ 4 → (namesL k)[j]? = some v → j < k ∧ v = .ref (130 + 14 * j)
  | 0, j, v, _, h => by cases h
  | 1, 0, v, _, h => by cases h; exact ⟨by omega, rfl⟩
  | 2, 0, v, _, h => by cases h; exact ⟨by omega, rfl⟩
  | 2, 1, v, _, h => by cases h; exact ⟨by omega, rfl⟩
  | 3, 0, v, _, h => by cases h; exact ⟨by omega, rfl⟩
  | 3, 1, v, _, h => by cases h; exact ⟨by omega, rfl⟩
  | 3, 2, v, _, h => by cases h; exact ⟨by omega, rfl⟩
  | 4, 0, v, _, h => by cases h; exact ⟨by omega, rfl⟩
  | 4, 1, v, _, h => by cases h; exact ⟨by omega, rfl⟩
  | 4, 2, v, _, h => by cases h; exact ⟨by omega, rfl⟩
  | 4, 3, v, _, h => by cases h; exact ⟨by omega, rfl⟩
  | 1, j + 1, v, _, h => by cases h
  | 2, j + 2, v, _, h => by cases h
  | 3, j + 3, v, _, h => by cases h
  | 4, j + 4, v, _, h => by cases h
  | k + 5, _, _, h, _ => absurd h (by omega)
theorem seg_tup {o : Bool} {at_ : Nat} : ∀ {j : Nat}, j < 4 → getH (130 + 14 * j) (seg j o at_) = some (.tup [.str (nameOf j), .int (bif o then 72 else 71), .int (at_ : Int)])
  | 0, _ => rfl
  | 1, _ => rfl
  | 2, _ => rfl
  | 3, _ => rfl
  | j + 4, h => absurd h (by omega)
theorem CQ_tup {i h k y : Nat} {at_ : Nat → Nat} {a : Nat} {ds : List (Int × Int)} {T : List (Nat × AO)} : ∀ {j : Nat}, j < 4 → getH (130 + 14 * j) (CQv i h k y at_ a ds T).heap = getH (130 + 14 * j) T
  | 0, _ => rfl
  | 1, _ => rfl
  | 2, _ => rfl
  | 3, _ => rfl
  | j + 4, h => absurd h (by omega)
end Mine
namespace Mine
theorem e8_a0 {ot at_ : Nat → Nat} (hot : ∀ j, ot j < 2) (hat : ∀ j, at_ j < 3) {a y hr k : Nat} (ha : a < 2) (hy : y < 3) (hh : hr < 3) (ds : List (Int × Int)) (T : List (Nat × AO)) (hj : 0 < k) :
  evL sE8 (fun σ => N8 0 σ.nxt) (putQ (nameOf 0) (bif otB ot 0 then 72 else 71) (at_ 0 : Int) (CQv 0 hr k y at_ a ds (seg 0 (otB ot 0) (at_ 0) ++ (cfgX (ot 0) a y ++ T)))) =
    some (.next, true, seg 0 (otB ot 0) (at_ 0) ++ (cfgX (ot 0) a y ++ T), CQv 1 hr k y at_ a ds (seg 0 (otB ot 0) (at_ 0) ++ (cfgX (ot 0) a y ++ T))) := by
  have ho := hot 0
  unfold CQv otB cfgX
  rw [vv_lt (x := 2) (i := 0) hj, vv_lt (x := 0) (i := 0) hj, vv_lt (x := 1) (i := 0) hj]
  generalize ot 0 = o at *
  match o, ho with
  | 0, _ => exact congrArg (fun f => f k (y : Int) (valT y) (valT y) (namesL k) ds (vv k at_ 2 0) (vv k at_ 2 1) (vv k at_ 2 2) (vv k at_ 2 3) (vv k at_ 0 0) (vv k at_ 0 1) (vv k at_ 0 2) (vv k at_ 0 3) (vv k at_ 1 0) (vv k at_ 1 1) (vv k at_ 1 2) (vv k at_ 1 3) (vc k 0) (vc k 1) (vc k 2) (vc k 3) T) (e8_0_0 _ _ _ (hat 0) hh ha)
  | 1, _ => exact congrArg (fun f => f k (valS a) (valS a) (namesL k) ds (vv k at_ 2 0) (vv k at_ 2 1) (vv k at_ 2 2) (vv k at_ 2 3) (vv k at_ 0 0) (vv k at_ 0 1) (vv k at_ 0 2) (vv k at_ 0 3) (vv k at_ 1 0) (vv k at_ 1 1) (vv k at_ 1 2) (vv k at_ 1 3) (vc k 0) (vc k 1) (vc k 2) (vc k 3) T) (e8_0_1 _ _ _ (hat 0) hh hy)
theorem e8_a1 {ot at_ : Nat → Nat} (hot : ∀ j, ot j < 2) (hat : ∀ j, at_ j < 3) {a y hr k : Nat} (ha : a < 2) (hy : y < 3) (hh : hr < 3) (ds : List (Int × Int)) (T : List (Nat × AO)) (hj : 1 < k) :
  evL sE8 (fun σ => N8 1 σ.nxt) (putQ (nameOf 1) (bif otB ot 1 then 72 else 71) (at_ 1 : Int) (CQv 1 hr k y at_ a ds (seg 1 (otB ot 1) (at_ 1) ++ (cfgX (ot 1) a y ++ T)))) =
    some (.next, true, seg 1 (otB ot 1) (at_ 1) ++ (cfgX (ot 1) a y ++ T), CQv 2 hr k y at_ a ds (seg 1 (otB ot 1) (at_ 1) ++ (cfgX (ot 1) a y ++ T))) := by
  have ho := hot 1
  unfold CQv otB cfgX
  rw [vv_lt (x := 2) (i := 1) hj, vv_lt (x := 0) (i := 1) hj, vv_lt (x := 1) (i := 1) hj]
  generalize ot 1 = o at *
  match o, ho with
  | 0, _ => exact congrArg (fun f => f k (y : Int) (valT y) (valT y) (namesL k) ds (vv k at_ 2 0) (vv k at_ 2 1) (vv k at_ 2 2) (vv k at_ 2 3) (vv k at_ 0 0) (vv k at_ 0 1) (vv k at_ 0 2) (vv k at_ 0 3) (vv k at_ 1 0) (vv k at_ 1 1) (vv k at_ 1 2) (vv k at_ 1 3) (vc k 0) (vc k 1) (vc k 2) (vc k 3) T) (e8_1_0 _ _ _ (hat 1) hh ha)
  | 1, _ => exact congrArg (fun f => f k (valS a) (valS a) (namesL k) ds (vv k at_ 2 0) (vv k at_ 2 1) (vv k at_ 2 2) (vv k at_ 2 3) (vv k at_ 0 0) (vv k at_ 0 1) (vv k at_ 0 2) (vv k at_ 0 3) (vv k at_ 1 0) (vv k at_ 1 1) (vv k at_ 1 2) (vv k at_ 1 3) (vc k 0) (vc k 1) (vc k 2) (vc k 3) T) (e8_1_1 _ _ _ (hat 1) hh hy)
theorem e8_a2 {ot at_ : Nat → Nat} (hot : ∀ j, ot j < 2) (hat : ∀ j, at_ j < 3) {a y hr k : Nat} (ha : a < 2) (hy : y < 3) (hh : hr < 3) (ds : List (Int × Int)) (T : List (Nat × AO)) (hj : 2 < k) :
  evL sE8 (fun σ => N8 2 σ.nxt) (putQ (nameOf 2) (bif otB ot 2 then 72 else 71) (at_ 2 : Int) (CQv 2 hr k y at_ a ds (seg 2 (otB ot 2) (at_ 2) ++ (cfgX (ot 2) a y ++ T)))) =
    some (.next, true, seg 2 (otB ot 2) (at_ 2) ++ (cfgX (ot 2) a y ++ T), CQv 3 hr k y at_ a ds (seg 2 (otB ot 2) (at_ 2) ++ (cfgX (ot 2) a y ++ T))) := by
  have ho := hot 2
  unfold CQv otB cfgX
  rw [vv_lt (x := 2) (i := 2) hj, vv_lt (x := 0) (i := 2) hj, vv_lt (x := 1) (i := 2) hj]
  generalize ot 2 = o at *
  match o, ho with
  | 0, _ => exact congrArg (fun f => f k (y : Int) (valT y) (valT y) (namesL k) ds (vv k at_ 2 0) (vv k at_ 2 1) (vv k at_ 2 2) (vv k at_ 2 3) (vv k at_ 0 0) (vv k at_ 0 1) (vv k at_ 0 2) (vv k at_ 0 3) (vv k at_ 1 0) (vv k at_ 1 1) (vv k at_ 1 2) (vv k at_ 1 3) (vc k 0) (vc k 1) (vc k 2) (vc k 3) T) (e8_2_0 _ _ _ (hat 2) hh ha)
  | 1, _ => exact congrArg (fun f => f k (valS a) (valS a) (namesL k) ds (vv k at_ 2 0) (vv k at_ 2 1) (vv k at_ 2 2) (vv k at_ 2 3) (vv k at_ 0 0) (vv k at_ 0 1) (vv k at_ 0 2) (vv k at_ 0 3) (vv k at_ 1 0) (vv k at_ 1 1) (vv k at_ 1 2) (vv k at_ 1 3) (vc k 0) (vc k 1) (vc k 2) (vc k 3) T) (e8_2_1 _ _ _ (hat 2) hh hy)
theorem e8_a3 {ot at_ : Nat → Nat} (hot : ∀ j, ot j < 2) (hat : ∀ j, at_ j < 3) {a y hr k : Nat} (ha : a < 2) (hy : y < 3) (hh : hr < 3) (ds : List (Int × Int)) (T : List (Nat × AO)) (hj : 3 < k) :
  evL sE8 (fun σ => N8 3 σ.nxt) (putQ (nameOf 3) (bif otB ot 3 then 72 else 71) (at_ 3 : Int) (CQv 3 hr k y at_ a ds (seg 3 (otB ot 3) (at_ 3) ++ (cfgX (ot 3) a y ++ T)))) =
    some (.next, true, seg 3 (otB ot 3) (at_ 3) ++ (cfgX (ot 3) a y ++ T), CQv 4 hr k y at_ a ds (seg 3 (otB ot 3) (at_ 3) ++ (cfgX (ot 3) a y ++ T))) := by
  have ho := hot 3
  unfold CQv otB cfgX
  rw [vv_lt (x := 2) (i := 3) hj, vv_lt (x := 0) (i := 3) hj, vv_lt (x := 1) (i := 3) hj]
  generalize ot 3 = o at *
  match o, ho with
  | 0, _ => exact congrArg (fun f => f k (y : Int) (valT y) (valT y) (namesL k) ds (vv k at_ 2 0) (vv k at_ 2 1) (vv k at_ 2 2) (vv k at_ 2 3) (vv k at_ 0 0) (vv k at_ 0 1) (vv k at_ 0 2) (vv k at_ 0 3) (vv k at_ 1 0) (vv k at_ 1 1) (vv k at_ 1 2) (vv k at_ 1 3) (vc k 0) (vc k 1) (vc k 2) (vc k 3) T) (e8_3_0 _ _ _ (hat 3) hh ha)
  | 1, _ => exact congrArg (fun f => f k (valS a) (valS a) (namesL k) ds (vv k at_ 2 0) (vv k at_ 2 1) (vv k at_ 2 2) (vv k at_ 2 3) (vv k at_ 0 0) (vv k at_ 0 1) (vv k at_ 0 2) (vv k at_ 0 3) (vv k at_ 1 0) (vv k at_ 1 1) (vv k at_ 1 2) (vv k at_ 1 3) (vc k 0) (vc k 1) (vc k 2) (vc k 3) T) (e8_3_1 _ _ _ (hat 3) hh hy)
theorem e8_all {ot at_ : Nat → Nat} (hot : ∀ j, ot j < 2) (hat : ∀ j, at_ j < 3) {a y hr k : Nat} (ha : a < 2) (hy : y < 3) (hh : hr < 3) (ds : List (Int × Int)) (T : List (Nat × AO)) : ∀ {j : Nat}, j < k → j < 4 →
  evL sE8 (fun σ => N8 j σ.nxt) (putQ (nameOf j) (bif otB ot j then 72 else 71) (at_ j : Int) (CQv j hr k y at_ a ds (seg j (otB ot j) (at_ j) ++ (cfgX (ot j) a y ++ T)))) =
    some (.next, true, seg j (otB ot j) (at_ j) ++ (cfgX (ot j) a y ++ T), CQv (j + 1) hr k y at_ a ds (seg j (otB ot j) (at_ j) ++ (cfgX (ot j) a y ++ T)))
  | 0, hj, _ => e8_a0 hot hat ha hy hh ds T hj
  | 1, hj, _ => e8_a1 hot hat ha hy hh ds T hj
  | 2, hj, _ => e8_a2 hot hat ha hy hh ds T hj
  | 3, hj, _ => e8_a3 hot hat ha hy hh ds T hj
  | j + 4, _, h => absurd h (by omega)
theorem cfgX_has {o a y : Nat} {ot : Nat → Bool} {at_ : Nat → Nat} {j : Nat} (h : j ≤ 4) : Has (cfgX o a y) (TT a y ot at_ j) := by
  unfold cfgX
  cases Nat.beq o 1 with
  | true => exact TT_cfgT h
  | false => exact TT_cfgS h
end Mine
namespace Mine
noncomputable def tpR : Tp := { tp with glob := fun x => bif sEqB x ("range" : Str) then some (.type "range") else tp.glob x }
theorem range_none (P : Params) : nsIn (K0 P) mainGlobals (Str.ofString "range") = some none := by kernel_rfl
theorem tpR_ok (prog : Program) (P : Params) : TpOK prog (K0 P) tpR where
  glob x v h := by
    have h' : (bif sEqB x ("range" : Str) then some (.type "range") else tp.glob x) = some v := h
    cases e : sEqB x ("range" : Str) with
    | true =>
      rw [e] at h'; cases h'
      rw [sEq_iff.mp e]
      exact .inr ⟨range_none P, by kernel_rfl, by decide⟩
    | false => rw [e] at h'; exact (tp_ok prog P).glob x v h'
  attr := (tp_ok prog P).attr
  tups := (tp_ok prog P).tups
  keep := (tp_ok prog P).keep
noncomputable def s0 (ds : List (Int × Int)) : St := ⟨[(Str.ofString "vial", .ref 0)], [], false, [(0, .vial ds)], 1⟩
theorem stores_q {σ : St} {nm : Str} {x b : Int} {p1 p2 p3 : Pos} : stores lawS [.Name ("name" : Str) p1, .Name ("number" : Str) p2, .Name ("at" : Str) p3] [.str nm, .int x, .int b] σ = some (putQ nm x b σ) := by
  have hk := law_kinds
  simp only [Prod.mk.injEq] at hk
  obtain ⟨k1, k2, k3, k4, _⟩ := hk
  have st : ∀ (σ : St) (x : Str) (v : AV), kindOf lawS x = some .local → store lawS σ x v = some { σ with locs := putL x v σ.locs } := fun σ x v h => by unfold store; rw [h]
  unfold stores
  dsimp only
  rw [st _ _ _ k2]
  unfold stores
  dsimp only
  rw [st _ _ _ k3]
  unfold stores
  dsimp only
  rw [st _ _ _ k4]
  rfl
section
variable {prog : Program} {w : World} {P : Params} {A₀ A : Around} {base h₀ : Heap} {outer : List Env} {fenv env : Env} {L : Addr} {m : Str → Option Value} {ρ : List Addr} {led : List (Addr × Obj)} {h : Heap} {tk : Nat} {z : Shared} {E : Value → Shared → Prop}
theorem law_walk (O : TopOK prog w (K0 P) tp) {a y k hr : Nat} {ot at_ : Nat → Nat} (ha : a < 2) (hy : y < 3) (hk : k < 4) (hh : hr < 3) (hot : ∀ j, ot j < 2) (hat : ∀ j, at_ j < 3) {Q : Flow → Shared → Prop}
    (R : Room (K0 P) A₀ A base h₀ outer fenv env L lawS 60) (X : Rel prog w h₀ L env (s0 ((2, (a : Int)) :: (3, (y : Int)) :: (4, (k : Int)) :: dsL ot at_ hr 0 (k + 1))) ρ m led h)
    (q : ∀ σ' ρ' m' led' h' tk', Rel prog w h₀ L env σ' ρ' m' led' h' → Q (.ret (.bool true)) (S z h' tk')) : wpAny (model prog w) A (execs (nthT lawB 1) env) Q E (S z h tk) := by
  obtain ⟨p1, p2, p9, p10, p11, p12, p13, p14, p15, p16, p17, p18, k3, k4, hform⟩ := law_form
  have hkk := law_kinds
  simp only [Prod.mk.injEq] at hkk
  obtain ⟨kk1, kk2, kk3, kk4, kk5, kk6, kk7, kk8, kk9, kk10⟩ := hkk
  rw [hform]
  refine law_step O (N := fun _ => N1 85) (T := []) (e1 _) rfl (fun _ _ _ => rfl) R X fun ρ1 m1 led1 h1 tk1 t1 => ?_
  obtain ⟨n2, e2⟩ := e2_all ((3, (y : Int)) :: (4, (k : Int)) :: dsL ot at_ hr 0 (k + 1)) ha
  refine law_step O e2 rfl (fun _ _ _ => rfl) R t1.rel fun ρ2 m2 led2 h2 tk2 t2 => ?_
  obtain ⟨n3, e3⟩ := e3_all ((4, (k : Int)) :: dsL ot at_ hr 0 (k + 1)) hy ha
  refine law_step O e3 rfl (fun _ g hg => rng_none (lo := 85) (hi := 95) hg (cfgS_rng a)) R t2.rel fun ρ3 m3 led3 h3 tk3 t3 => ?_
  refine law_step O (e4_all (ot := ot) (at_ := at_) _) rfl (fun _ g hg => rng_none (lo := 85) (hi := 106) hg (rng_app (rng_mono (by omega) (by omega) (cfgT_rng y)) (rng_mono (by omega) (by omega) (cfgS_rng a)))) R t3.rel fun ρ4 m4 led4 h4 tk4 t4 => ?_
  -- the turns
  refine wpAny_execs_cons (wpAny_For ?_ (fun _ => rfl))
  refine Call_ ?_ rfl
  have hrange : load tpR lawS (CTv 0 y at_ a ot ((4, (k : Int)) :: dsL ot at_ hr 0 (k + 1))) ("range" : Str) = some (.top (.type "range")) := by
    unfold load; rw [kk8]; rfl
  refine wpAny_Name (load_ok (n := 60) (tpR_ok prog P) hrange R t4.rel fun u V => ?_) (by decide)
  cases V
  refine callWith_any (h₀ := h₀) (.inr fun a e => nomatch e) rfl (R.X.keeps t4.rel.F.keep) ?_
  refine spliced_more ?_ (star_cons rfl env)
  have hev : exV (run tp 60) rArg lawS (CTv 0 y at_ a ot ((4, (k : Int)) :: dsL ot at_ hr 0 (k + 1))) = some (.int (1 + (k : Int)), CTv 0 y at_ a ot (dsL ot at_ hr 0 (k + 1))) := by
    exact e45 _ _ _ _ _ _ _ _ _
  refine exV_ok (sound O 60) hev _ _ _ _ _ _ _ _ _ _ _ _ _ _ _ _ R t4.rel fun ρ5 m5 led5 h5 tk5 va t5 V5 => ?_
  obtain ⟨t', rfl⟩ := V5
  refine spliced_none ⟨R.X.keeps t5.rel.F.keep, ?_⟩
  refine call_range_1 (s := S z h5 tk5) ?_
  have F6 := t5.rel.F.push ({ cls := .type "range", data := .fields #[.int 0 tk5, .int (1 + (k : Int)) t', .int 1 (tk5 + 1)] } : Obj)
  have N6' := News.push t5.rel.F t5.rel.N ({ cls := .type "range", data := .fields #[.int 0 tk5, .int (1 + (k : Int)) t', .int 1 (tk5 + 1)] } : Obj)
  obtain ⟨t6, hit6⟩ := t5.rel.pas F6 N6' (lt_size t5.rel)
  have hcnt : (1 + (k : Int)) = ((k + 1 : Nat) : Int) := by omega
  have hr6 : IsRange (h5.push ({ cls := .type "range", data := .fields #[.int 0 tk5, .int (1 + (k : Int)) t', .int 1 (tk5 + 1)] } : Obj)) h5.objs.size 0 ((k + 1 : Nat) : Int) 1 tk5 t' (tk5 + 1) := by
    have := IsRange.new h5 0 (1 + (k : Int)) 1 tk5 t' (tk5 + 1)
    rw [hcnt] at this
    rw [hcnt]; exact this
  refine range_turns (σs := fun j => CTv j y at_ a ot (dsL ot at_ hr j (k + 1 - j))) (x := ("turn" : Str)) O (k + 1) kk1 (fun _ => rfl) ?_ R t6.rel hr6 (by omega) fun ρ7 m7 led7 h7 tk7 X7 => ?_
  · intro j hj ρ m led h tk z E Q X q'
    have e : k + 1 - j = (k + 1 - (j + 1)) + 1 := by omega
    have he := e5_all hot hat a y (dsL ot at_ hr (j + 1) (k + 1 - (j + 1))) (j := j) (by omega)
    have X' : Rel prog w h₀ L env (putTurn j (CTv j y at_ a ot ((2, (ot j : Int)) :: (3, (at_ j : Int)) :: dsL ot at_ hr (j + 1) (k + 1 - (j + 1))))) ρ m led h := by
      have X0 := X
      dsimp only at X0
      rw [e] at X0
      exact X0
    refine law_body O he rfl (fun _ g hg => TT_none (by omega) (Nat.le_refl _) g hg) R X' fun ρ' m' led' h' tk' t => q' ρ' m' led' h' tk' ?_
    have e2 : CTv j y at_ a ot (dsL ot at_ hr j (k + 1 - j)) = CTv j y at_ a ot ((2, (ot j : Int)) :: (3, (at_ j : Int)) :: dsL ot at_ hr (j + 1) (k + 1 - (j + 1))) := by rw [e]; rfl
    dsimp only
    rw [e2]
    exact t
  · show wpAny (model prog w) A (execs (sE7 ++ _) env) Q E (S z h7 tk7)
    rw [Nat.sub_self] at X7
    have hTT : ∀ b, 117 + 14 * (k + 1) ≤ b → ∀ g, (b ≤ g ∨ g < 85) → getH g (TT a y (otB ot) at_ (k + 1)) = none := fun b hb g hg => TT_none (by omega) hb g hg
    obtain ⟨σ8, h8, hσ8⟩ := e6_all (y := y) (a := a) (ot := ot) (at_ := at_) (dsL ot at_ hr (k + 1) 0) hk
    simp only [Prod.mk.injEq] at h8
    obtain ⟨h81, h82, h83⟩ := h8
    obtain ⟨ρ8, t8⟩ := X7.norm (N := N6) rfl h81 h82 (hTT 173 (by omega))
    rw [h83, hσ8] at t8
    refine law_step O (e7 hr hh (k + 1) _ _ _ _ _ _ _ _ _ _ _ _ _ _ _ _ _ _ _ _ _ _ _ _) rfl (fun _ g hg => hTT 173 (by omega) g hg) R t8.rel fun ρ9 m9 led9 h9 tk9 t9 => ?_
    have X9 : Rel prog w h₀ L env (CQv 0 hr (k + 1) y at_ a [] (TT a y (otB ot) at_ (k + 1))) ρ9 m9 led9 h9 := t9.rel
    refine wpAny_execs_cons (wpAny_For ?_ (fun _ => rfl))
    have hnames : load tp lawS (CQv 0 hr (k + 1) y at_ a [] (TT a y (otB ot) at_ (k + 1))) ("names" : Str) = some (.ref 115) := by
      unfold load; rw [kk6]; rfl
    refine wpAny_Name (load_ok (n := 60) (tp_ok prog P) hnames R X9 fun u V => ?_) (by decide)
    obtain ⟨rl, g9, rfl⟩ := V
    refine names_turns (σs := fun j => CQv j hr (k + 1) y at_ a [] (TT a y (otB ot) at_ (k + 1))) (σm := fun j => putQ (nameOf j) (bif otB ot j then 72 else 71) (at_ j : Int) (CQv j hr (k + 1) y at_ a [] (TT a y (otB ot) at_ (k + 1)))) O (namesL (k + 1)) 115 10 (fun _ => rfl) (fun _ _ => rfl) ?_ ?_ R X9 g9 fun ρa ma leda h_a tka Xa => ?_
    · intro j v hv
      obtain ⟨hj, rfl⟩ := names_at (by omega) hv
      refine ⟨_, _, rfl, ?_, stores_q⟩
      show getH (130 + 14 * j) (CQv j hr (k + 1) y at_ a [] (TT a y (otB ot) at_ (k + 1))).heap = _
      rw [CQ_tup (by omega)]
      exact TT_seg (by omega) hj _ _ (seg_tup (by omega))
    · intro j hj ρ m led h tk z E Q X q'
      rw [names_len (by omega)] at hj
      have hsame : ∀ i, getH i (seg j (otB ot j) (at_ j) ++ (cfgX (ot j) a y ++ TT a y (otB ot) at_ (k + 1))) = getH i (TT a y (otB ot) at_ (k + 1)) := two_front (TT_seg (by omega) hj) (cfgX_has (by omega))
      have tA := X.same (σ := putQ (nameOf j) (bif otB ot j then 72 else 71) (at_ j : Int) (CQv j hr (k + 1) y at_ a [] (TT a y (otB ot) at_ (k + 1)))) rfl (hp := (CQv j hr (k + 1) y at_ a [] (seg j (otB ot j) (at_ j) ++ (cfgX (ot j) a y ++ TT a y (otB ot) at_ (k + 1)))).heap) (CQ_same hsame) rfl
      have he := e8_all hot hat ha hy hh [] (TT a y (otB ot) at_ (k + 1)) hj (by omega)
      refine law_body O he rfl (fun _ g hg => ?_) R tA.rel fun ρ' m' led' h' tk' t => ?_
      · rw [hsame]
        exact hTT (190 + 36 * j) (by omega) g hg
      · have tB := t.rel.same rfl (hp := (CQv (j + 1) hr (k + 1) y at_ a [] (TT a y (otB ot) at_ (k + 1))).heap) (fun i => (CQ_same hsame i).symm) rfl
        exact q' _ _ _ _ _ ((tA.trans t).trans tB)
    · show wpAny (model prog w) A (execs [Stmt.Return _ _] env) Q E (S z h_a tka)
      refine wpAny_execs_cons (wpAny_Return_some (wpAny_Constant_bool ?_))
      exact q _ _ _ _ _ _ Xa
end
end Mine
namespace Mine
theorem stmt0 : ∃ p1 p2 p3 p4 p5 p6 p7 p8 p9 p10 p11 p12 p13 p14 p15 p16 p17 k1 k2 k3 k4 k5 k6, lawB = .Assign [.Name ("vial" : Str) p1] (.Dict [some (.Constant (.str ("cells" : Str)) k1 p2), some (.Constant (.str ("spot" : Str)) k2 p3)]
   [.ListComp (.BinOp (.Name ("cell" : Str) p4) .Mod (.BinOp (.Constant (.int 10) k3 p5) .Pow (.Constant (.int 9) k4 p6) p7) p8) [⟨.Name ("cell" : Str) p9, .Subscript (.Name ("script" : Str) p10) (.Slice none (some (.Constant (.int 20) k5 p11)) none p12) p13, [], 0⟩] ⟨.function, [((".0" : Str), .local), (("cell" : Str), .local)], false, false, []⟩ p14, .Constant (.int 0) k6 p15] p16) p17 :: nthT lawB 1 := by
  exact ⟨_, _, _, _, _, _, _, _, _, _, _, _, _, _, _, _, _, _, _, _, _, _, _, rfl⟩
theorem first_walk {prog : Program} {w : World} {A₀ A : Around} {base h₀ h : Heap} {outer : List Env} {name : Str} {sc : Scope} {L a l : Addr} {cd : Value} {vs : List Value} {ns : List Int} {g : Array GenState} {d : Drawn} {tk : Nat} {os : OsState} {E : Value → Shared → Prop} {Q : Flow → Shared → Prop}
   {p1 p2 p3 p4 p5 p6 p7 p8 p9 p10 p11 p12 p13 p14 p15 p16 p17 : Pos} {k1 k2 k3 k4 k5 k6 : Nat} (hk : sc.kind = .function) (hv : sc.names.lookup ("vial" : Str) = some .local) (hs : sc.names.lookup ("script" : Str) = some .local)
   (F : Fr h₀ L h (fun x => [(("script" : Str), Value.ref l)].reverse.lookup x)) (hL : h₀.IsList l vs.toArray) (hI : IntsAre vs ns) (N : News h₀ L h []) {p : Program} {loose : List Str} {mean : ExcName → Option Value} {mg mb : Str → Option Value} (T : Top p loose mean mg mb h₀) {K : Frag} (KX : K.In h₀) (K0 : Below A₀ base outer h₀) (hlen : ns.length ≤ 63) (hhand : A.handled = none)
   (q : ∀ (h' : Heap) (dv la : Addr) (o : Obj) (ys : List Value) (ep : Nat) (t tk' : Tok), Fr h₀ L h' (fun y => if y = ("vial" : Str) then some (.ref dv) else ([(("script" : Str), Value.ref l)].reverse.lookup y)) → News h₀ L h' [(dv, o), (la, W.listOf ys.toArray ep)] → dv ≠ la → (dv == sysModules) = false →
      o.IsDictOf (PySem.strKind prog w) [(("cells" : Str), .ref la), (("spot" : Str), .int 0 t)] → IntsAre ys ((ns.take 20).map fun a => a.fmod (10 ^ 9)) → Q .next ⟨h', g, d, tk', os⟩) :
   wpAny (model prog w) A (exec (.Assign [.Name ("vial" : Str) p1] (.Dict [some (.Constant (.str ("cells" : Str)) k1 p2), some (.Constant (.str ("spot" : Str)) k2 p3)]
   [.ListComp (.BinOp (.Name ("cell" : Str) p4) .Mod (.BinOp (.Constant (.int 10) k3 p5) .Pow (.Constant (.int 9) k4 p6) p7) p8) [⟨.Name ("cell" : Str) p9, .Subscript (.Name ("script" : Str) p10) (.Slice none (some (.Constant (.int 20) k5 p11)) none p12) p13, [], 0⟩] ⟨.function, [((".0" : Str), .local), (("cell" : Str), .local)], false, false, []⟩ p14, .Constant (.int 0) k6 p15] p16) p17) (envOf name sc L a cd)) Q E ⟨h, g, d, tk, os⟩ := by
  refine wpAny_Assign_Name ?_ rfl
  walk1
  walk1
  walk1
  walk1
  walk1
  refine ld (by assumption) rfl ?_ hk hs
  iterate 6 walk1
  rename_i d0 h0' o0 lo0 hd0 l10 D1 ws1 h1' F1 N1 hI1 hC1 hL1 l11
  dsimp only at F1 N1 ⊢
  refine srcC_listD (K := ItemKind.int) (as := ns.take 20) (pz := fun _ => true) (d := fun a => .int (a.fmod (10 ^ 9))) hhand (News.isList N1 (.head _)) hI1.areOf F1 N1 ?_ ?_ ?_ (by unfold sizeLine; omega)
  · intro C a v s₂ m₂ E' _ _ _ _
    exact wpAny_pure ⟨rfl, _, _, rfl, fun _ _ e => e⟩
  · intro C a v s₂ m₂ E' hv _ hn hx _
    obtain ⟨t, rfl⟩ := hv
    refine wpAny_BinOp (wpAny_Name (wpAny_loadName_local (by rfl) (by rfl) hn hx ?_) (by decide))
    refine wpAny_BinOp (wpAny_Constant_int (wpAny_Constant_int ?_))
    refine pow_int_small (by decide) (by decide) (by decide) ?_
    refine PyProof.Rows.mod_int (by decide) ?_
    exact ⟨.int _ _, _, _, rfl, fun _ _ e => e⟩
  · intro D ys h2 tk2 F2 N2 hD hl2 P2 hC2
    obtain ⟨nE, N3⟩ := made_enters P2 F2 N2 hD
    have hI2 := CarriedAll.intsOf hC2
    iterate 4 walk1
    have hne : D ≠ d0 := fun e => P2.2 (d0, o0) (.tail _ (.head _)) e.symm
    refine kdn_made_str F2 N3 (.tail hne (.tail (Nat.ne_of_gt l11) (.head fun p hp => nomatch hp))) hd0 rfl (by show [("cells" : Str), ("spot" : Str)].Nodup; decide) fun h3 o3 F3 N4 hd3 => ?_
    refine wpAny_storeName_local (env := envOf name sc L a cd) hv F3.ns (fun h4 hn4 hs4 => ?_) (by show (sc.kind == .class || (sc.kind == .module && L != mainGlobals)) = false; rw [hk]; rfl)
    have N5 := N4.set hs4
    refine q h4 d0 D o3 ys nE _ _ (F3.set hn4 hs4) (fun p hp => ?_) (Ne.symm hne) lo0 hd3 ?_
    · rcases List.mem_cons.mp hp with rfl | hp
      · exact N5 _ (.tail _ (.tail _ (.head _)))
      · rcases List.mem_cons.mp hp with rfl | hp
        · exact N5 _ (.head _)
        · exact nomatch hp
    · have e : (List.take 20 ns).filter (fun _ => true) = List.take 20 ns := List.filter_eq_self.mpr fun _ _ => rfl
      rw [e] at hI2
      exact hI2
end Mine
namespace Mine
theorem look_mem {a : Addr} {o : Obj} : ∀ {l : Frag}, List.lookup a l = some o → (a, o) ∈ l
  | (b, p) :: r, h => by
    rw [List.lookup_cons] at h
    cases e : (a == b) with
    | true => rw [e] at h; cases h; rw [beq_iff_eq.mp e]; exact .head _
    | false => rw [e] at h; exact .tail _ (look_mem h)
theorem kin {P : Params} {h : Heap} (Y : ∀ b o, (H1 P).get? b = some o → h.get? b = some o) : (K0 P).In h := fun a o e => Y a o (map_mem (kin0 P) (look_mem e))
theorem low0 (P : Params) : (List.range 466).all (fun a => ((H1 P).get? a).isSome) = true := by kernel_rfl
theorem low1 {P : Params} {h : Heap} (Y : ∀ b o, (H1 P).get? b = some o → h.get? b = some o) (a : Addr) (ha : a < 466) : ∃ o, h.get? a = some o := by
  have := List.all_eq_true.mp (low0 P) a (List.mem_range.mpr ha)
  obtain ⟨o, ho⟩ := Option.isSome_iff_exists.mp this
  exact ⟨o, Y a o ho⟩
theorem ints_lenI : ∀ {vs : List Value} {ns : List Int}, IntsAre vs ns → vs.length = ns.length
  | _, _, .nil => rfl
  | _, _, .cons n t h => by simp [ints_lenI h]
theorem dsL_draws {cs : List Int} {ot at_ : Nat → Nat} {hr : Nat} (hot : ∀ j, dropOf cs (3 + 2 * j) 2 = (ot j : Int)) (hat : ∀ j, dropOf cs (4 + 2 * j) 3 = (at_ j : Int)) : ∀ (n j : Nat), dropOf cs (3 + 2 * (j + n)) 3 = (hr : Int) → Draws cs (3 + 2 * j) (dsL ot at_ hr j n)
  | 0, j, h => ⟨h.symm, trivial⟩
  | n + 1, j, h => by
    refine ⟨(hot j).symm, ?_, ?_⟩
    · rw [show 3 + 2 * j + 1 = 4 + 2 * j by omega]; exact (hat j).symm
    · rw [show 3 + 2 * j + 1 + 1 = 3 + 2 * (j + 1) by omega]
      exact dsL_draws hot hat n (j + 1) (by rw [show j + 1 + n = j + (n + 1) by omega]; exact h)
theorem dsL_len {ot at_ : Nat → Nat} {hr : Nat} : ∀ (n j : Nat), (dsL ot at_ hr j n).length = 2 * n + 1
  | 0, j => rfl
  | n + 1, j => by show (dsL ot at_ hr (j + 1) n).length + 1 + 1 = _; rw [dsL_len n (j + 1)]; omega
/-- the whole body of the law -/
theorem law_body_ok {prog : Program} {w : World} {s₁ : Shared} {fa l : Addr} {cd : Value} {vs : List Value} {ns : List Int} {h₁ : Heap} {tk : Nat} {E : Value → Shared → Prop} {Q : Flow → Shared → Prop} {name : Str}
    {p : Program} {loose : List Str} {mean : ExcName → Option Value} {mg mb : Str → Option Value} (T : Top p loose mean mg mb s₁.heap)
    (Y : ∀ b o, (H1 w.params).get? b = some o → s₁.heap.get? b = some o) (hL : s₁.heap.IsList l vs.toArray) (hI : IntsAre vs ns) (hlen : ns.length ≤ 63)
    (F : Fr s₁.heap s₁.heap.objs.size h₁ (fun x => [(("script" : Str), Value.ref l)].reverse.lookup x))
    (q : ∀ h' tk', (∀ b o, s₁.heap.get? b = some o → h'.get? b = some o) → Q (.ret (.bool true)) ⟨h', s₁.gens, s₁.drawn, tk', s₁.os⟩) :
    wpAny (model prog w) (callerA.deeper (envOf name lawS s₁.heap.objs.size fa cd)) (execs lawB (envOf name lawS s₁.heap.objs.size fa cd)) Q E ⟨h₁, s₁.gens, s₁.drawn, tk, s₁.os⟩ := by
  obtain ⟨p1, p2, p3, p4, p5, p6, p7, p8, p9, p10, p11, p12, p13, p14, p15, p16, p17, k1, k2, k3, k4, k5, k6, hform⟩ := stmt0
  have hkk := law_kinds
  simp only [Prod.mk.injEq] at hkk
  obtain ⟨kk1, kk2, kk3, kk4, kk5, kk6, kk7, kk8, kk9, kk10⟩ := hkk
  have KX := kin Y
  rw [hform]
  refine wpAny_execs_cons (first_walk kk10 kk5 kk9 F hL hI News.nil T KX (below_caller s₁.heap) hlen rfl fun h' dv la o ys ep t tk' F' N' hne lo hd hys => ?_)
  show wpAny _ _ (execs (nthT lawB 1) _) Q E (S s₁ h' tk')
  let cs := (ns.take 20).map fun a => a.fmod (10 ^ 9)
  obtain ⟨a, ha, ea⟩ := drop2 cs 0
  obtain ⟨y, hy, ey⟩ := drop3 cs 1
  obtain ⟨k, hk, ek⟩ := drop4 cs 2
  obtain ⟨ot, hot⟩ : ∃ f : Nat → Nat, ∀ j, f j < 2 ∧ dropOf cs (3 + 2 * j) 2 = (f j : Int) := ⟨fun j => (dropOf cs (3 + 2 * j) 2).toNat, fun j => by
    have := drop_rng (cs := cs) (k := 3 + 2 * j) (m := 2) (by decide)
    dsimp only
    omega⟩
  obtain ⟨at_, hat⟩ : ∃ f : Nat → Nat, ∀ j, f j < 3 ∧ dropOf cs (4 + 2 * j) 3 = (f j : Int) := ⟨fun j => (dropOf cs (4 + 2 * j) 3).toNat, fun j => by
    have := drop_rng (cs := cs) (k := 4 + 2 * j) (m := 3) (by decide)
    dsimp only
    omega⟩
  obtain ⟨hr, hh, eh⟩ := drop3 cs (3 + 2 * (0 + (k + 1)))
  have hds : Draws cs 0 ((2, (a : Int)) :: (3, (y : Int)) :: (4, (k : Int)) :: dsL ot at_ hr 0 (k + 1)) :=
    ⟨ea.symm, ey.symm, ek.symm, dsL_draws (fun j => (hot j).2) (fun j => (hat j).2) (k + 1) 0 eh⟩
  have hyl : ys.length ≤ 20 := by rw [ints_lenI hys, List.length_map, List.length_take]; omega
  have X : Rel prog w s₁.heap s₁.heap.objs.size (envOf name lawS s₁.heap.objs.size fa cd) (s0 ((2, (a : Int)) :: (3, (y : Int)) :: (4, (k : Int)) :: dsL ot at_ hr 0 (k + 1))) [dv] _ [(dv, o), (la, W.listOf ys.toArray ep)] h' :=
    { F := F', N := N'
      nd := by simp [hne]
      rln := rfl
      rnd := by simp
      rled := fun b hb => .inl ⟨o, by have : b = dv := by simpa using hb
                                      rw [this]; exact .head _⟩
      hp := fun i q hq => by
        have hq' : (bif Nat.beq i 0 then some (AO.vial ((2, (a : Int)) :: (3, (y : Int)) :: (4, (k : Int)) :: dsL ot at_ hr 0 (k + 1))) else none) = some q := hq
        cases e : Nat.beq i 0 with
        | false => rw [e] at hq'; cases hq'
        | true =>
          rw [e] at hq'; cases hq'
          have hi := Nat.eq_of_beq_eq_true e
          subst hi
          refine ⟨dv, o, rfl, .head _, lo, la, ys.toArray, ep, 0, t, cs, hd, .tail _ (.head _), by simp [Ne.symm hne], by simpa using hyl, ints_to hys, hds, ?_⟩
          simp only [List.length_cons, dsL_len]; omega
      loc := ⟨rfl, fun x v hx => by
        have hx' : (bif sEqB x ("vial" : Str) then some (AV.ref 0) else none) = some v := hx
        cases e : sEqB x ("vial" : Str) with
        | false => rw [e] at hx'; cases hx'
        | true =>
          rw [e] at hx'; cases hx'
          exact ⟨.ref dv, if_pos (sEq_iff.mp e), dv, rfl, rfl⟩⟩
      cel := fun x i e => by cases e
      low := low1 Y }
  have R : Room (K0 w.params) callerA (callerA.deeper (envOf name lawS s₁.heap.objs.size fa cd)) s₁.heap s₁.heap [] (envOf name lawS s₁.heap.objs.size fa cd) (envOf name lawS s₁.heap.objs.size fa cd) s₁.heap.objs.size lawS 60 :=
    { below := below_caller s₁.heap, frames := Around.frames_deeper rfl, ffr := rfl, fkind := kk10, esc := rfl, ekind := kk10, eglob := rfl, ebl := rfl
      depth := by show 1 + claimMargin + 1 + 4 * 60 < recursionLimit; decide
      units := by show 4 + 3 + 40 * 60 + 100 < cLine; decide
      hand := rfl, X := KX, T := ⟨_, _, _, _, topRead_of T⟩ }
  exact law_walk (top_ok prog w w.params (drop_ok prog w w.params)) ha hy hk hh (fun j => (hot j).1) (fun j => (hat j).1) R X fun σ' ρ' m' led' h2 tk2 X2 => q h2 tk2 X2.F.keep
end Mine
namespace Mine
theorem cw : PySem.Challenge.rw_rg0021_01.Holds := by
  w_on; o_law
  refine holds_open (q := qv) (loose := looseL) (Xt := Xt0) (XP := XL qv []) (Yf := fun s => s.heap) (Ya := fun w => H1 w.params) (YP := fun w h => ∀ b o, (H1 w.params).get? b = some o → h.get? b = some o) (N := 10000) left0 (fun w s e => e ▸ fun _ _ x => x) (fun w h h' y k b o e => k _ _ (y b o e)) (fun s e => xl_of s (Bool.and_eq_true_iff.mp e).1) XL.keeps (by rfl) (by rfl) (by rfl) (fun s e => recFacts_of (Bool.and_eq_true_iff.mp e).2) (by rfl) (by assumption) (by decide +kernel) ⟨rfl, rfl, rfl, rfl, rfl, by decide +kernel⟩ ?hw ?hc
  case hw => w_witness2
  intro w s₀ s₁ mg mb G Y fa o pm cd doc dV kV ho hd hcd hD hmg hg args vals as hpre hlay hrd hwl hlo
  refine Ground.open G ?_
  intro T B D TE TW
  wrow_args hpre hlay hrd hwl hlo
  have he := Dflts.none hD rfl
  subst he
  rename_i ns hs _ _ _ _ _ _ l vs _ hL ra w1 r0 hI _ hlen _
  refine wpAny_call (call_fullW_ret (scope := lawS) (body := lawB) (by decide) ho hd (Top.nolimit T) hcd (BindsTo.of_eq rfl) (locs rfl) fun h₁ F => ?_)
  refine law_body_ok T Y hL hI (by omega) F fun h' tk' hkeep => ?_
  refine GoodW.toG ⟨.inl ⟨.bool true, ofPy (.bool true), [], rfl, fun cls => rfl, ?_, ?_, ?_⟩, hkeep, rfl, hg⟩
  · exact .bool _
  · kernel_rfl
  · intro _
    exact ⟨List.nodup_nil, fun a ha => nomatch ha⟩
end Mine

theorem PySem.Challenge.cw_rg0021_01_holds : PySem.Challenge.rw_rg0021_01.Holds := by
  exact Mine.cw
