import PyProof.Rows.All
import Wide.All
import OpenK.AllK
import Wide.FinOn
import Lean
import PySem.Challenge.RW_sa0486_01
set_option Elab.async false
set_option maxRecDepth 100000
section
namespace Mine
open PySem

inductive AV where
  | none
  | bool (b : Bool)
  | int (i : Int)
  | str (s : Str)
  | tup (l : List AV)
  | lst (l : List AV)
  | obj (i : Nat)
  | top (v : Value)
  | unk
  | src (l : List Int)
  deriving Inhabited

inductive AObj where
  | list (l : List AV)
  | arr (l : List AV)
  | tup (l : List AV)
  | dict (l : List (Str × AV))
  | inst (c : Addr) (l : List (Str × AV))
  deriving Inhabited

noncomputable abbrev AHeap := List AObj

inductive Res (α : Type) where
  | ok (a : α) (σ : AHeap)
  | exn (σ : AHeap)
  | fail

noncomputable def M (α : Type) := AHeap → Res α
@[reducible] noncomputable def M.pure {α : Type} (a : α) : M α := fun σ => .ok a σ
noncomputable def Res.bind {α β : Type} (r : Res α) (f : α → M β) : Res β := match r with
  | .ok a σ => f a σ
  | .exn σ => .exn σ
  | .fail => .fail
@[reducible] noncomputable def M.bind {α β : Type} (m : M α) (f : α → M β) : M β := fun σ => (m σ).bind f
noncomputable instance : Monad M where
  pure := M.pure
  bind := M.bind
noncomputable def failM {α : Type} : M α := fun _ => .fail
noncomputable def raiseM {α : Type} : M α := fun σ => .exn σ
noncomputable def liftO {α : Type} : Option α → M α
  | some a => fun σ => .ok a σ
  | Option.none => fun _ => .fail

noncomputable def getObj (i : Nat) : M AObj := fun σ => match σ[i]? with
  | some o => .ok o σ
  | Option.none => .fail
noncomputable def allocM (o : AObj) : M Nat := fun σ => .ok σ.length (σ ++ [o])
noncomputable def setObj (i : Nat) (o : AObj) : M Unit := fun σ => if i < σ.length then .ok () (σ.set i o) else .fail

noncomputable def sizeCap : Nat := 1000

noncomputable def told {α : Type} {P : α → Prop} : Option { x : α // P x } → Option α
  | some x => some x.1
  | Option.none => Option.none
noncomputable def AV.int? (a : AV) : Option Int := told (P := fun i => a = .int i) (match a with
  | .int i => some ⟨i, rfl⟩
  | _ => Option.none)
noncomputable def AV.str? (a : AV) : Option Str := told (P := fun i => a = .str i) (match a with
  | .str i => some ⟨i, rfl⟩
  | _ => Option.none)
noncomputable def AV.obj? (a : AV) : Option Nat := told (P := fun i => a = .obj i) (match a with
  | .obj i => some ⟨i, rfl⟩
  | _ => Option.none)
noncomputable def AV.tup? (a : AV) : Option (List AV) := told (P := fun i => a = .tup i) (match a with
  | .tup i => some ⟨i, rfl⟩
  | _ => Option.none)
noncomputable def AV.lst? (a : AV) : Option (List AV) := told (P := fun i => a = .lst i) (match a with
  | .lst i => some ⟨i, rfl⟩
  | _ => Option.none)
noncomputable def isNone : AV → Bool
  | .none => true
  | _ => false
noncomputable def onS {β α : Type} (o : Option β) (f : β → M α) : M α := match o with
  | some b => f b
  | Option.none => failM
noncomputable def on1 {α : Type} (l : List AV) (f : AV → M α) : M α := match l with
  | [] => failM
  | v :: r => match r with
    | [] => f v
    | _ :: _ => failM
noncomputable def on2 {α : Type} (l : List AV) (f : AV → AV → M α) : M α := match l with
  | [] => failM
  | v :: r => on1 r (f v)

noncomputable def nameOf (e : Expr) : Option Str := told (P := fun x => ∃ p, e = .Name x p) (match e with
  | .Name x p => some ⟨x, p, rfl⟩
  | _ => Option.none)
noncomputable def attrOf (e : Expr) : Option (Expr × Str × Pos) := told (P := fun x => e = .Attribute x.1 x.2.1 x.2.2) (match e with
  | .Attribute b m p => some ⟨(b, m, p), rfl⟩
  | _ => Option.none)
noncomputable def callOf (e : Expr) : Option (Expr × List Expr × List Keyword × Pos) := told (P := fun x => e = .Call x.1 x.2.1 x.2.2.1 x.2.2.2) (match e with
  | .Call f as ks p => some ⟨(f, as, ks, p), rfl⟩
  | _ => Option.none)
noncomputable def constOf (e : Expr) : Option Const := told (P := fun c => ∃ k p, e = .Constant c k p) (match e with
  | .Constant c k p => some ⟨c, k, p, rfl⟩
  | _ => Option.none)
noncomputable def oneOf {α : Type} : List α → Option α
  | [] => Option.none
  | x :: r => if r.isEmpty then some x else Option.none
noncomputable def callName (e : Expr) : Option (Str × Expr) :=
  (callOf e).bind fun (f, as, ks, _) => (nameOf f).bind fun x => (oneOf as).bind fun a => if ks.isEmpty then some (x, a) else Option.none

noncomputable def capped (l : List AV) : M (List AV) := if l.length ≤ sizeCap then pure l else failM
noncomputable def toSeq : AV → M (List AV)
  | .tup l => capped l
  | .lst l => capped l
  | .src l => capped (l.map AV.int)
  | .obj i => do match ← getObj i with
    | .list l => capped l
    | .arr l => capped l
    | _ => failM
  | _ => failM

noncomputable def truth : AV → M Bool
  | .bool b => pure b
  | _ => failM

noncomputable def isTupAV : AV → Bool
  | .tup _ => true
  | _ => false
noncomputable def isList : AV → Bool
  | .lst _ => true
  | .obj _ => true
  | _ => false

mutual
noncomputable def toPD : AV → Option PyData
  | .none => some .none
  | .bool b => some (.bool b)
  | .int i => some (.int i)
  | .str s => some (.str s)
  | .tup l => (toPDs l).map .tuple
  | .lst l => (toPDs l).map .list
  | _ => Option.none
noncomputable def toPDs : List AV → Option (List PyData)
  | [] => some []
  | v :: r => match toPD v, toPDs r with
    | some d, some ds => some (d :: ds)
    | _, _ => Option.none
end

noncomputable def isNil : AV → Bool
  | .lst [] => true
  | _ => false
noncomputable def eqM (a b : AV) : M Bool := if isNil b && isList a then do
    let l ← toSeq a
    pure l.isEmpty
  else match toPD a, toPD b with
    | some p, some q => if SeqAt.shaped p && SeqAt.shaped q then pure (PyData.eqv p q) else failM
    | _, _ => failM

noncomputable def noneK : AV → Option Bool
  | .unk => Option.none
  | .top _ => Option.none
  | .none => some true
  | _ => some false
noncomputable def isM' (a : AV) (j : Nat) : M AV := match a.obj? with
  | some i => if i = j then pure (.bool true) else failM
  | Option.none => onS a.tup? fun l => do match ← getObj j with
    | .tup l' => if l.length = l'.length then failM else pure (.bool false)
    | _ => failM
noncomputable def isM (a b : AV) : M AV := if isNone b then onS (noneK a) fun t => pure (.bool t) else onS b.obj? fun j => isM' a j

noncomputable def inM (a b : AV) : M Bool := match b with
  | .tup l => match toPD a, toPDs l with
    | some d, some xs => if SeqAt.shaped d && PyData.canLayAll0 xs then pure (xs.any fun y => PyData.eqv y d) else failM
    | _, _ => failM
  | .lst l => match toPD a, toPDs l with
    | some d, some xs => if SeqAt.shaped d && PyData.canLayAll0 xs then pure (xs.any fun y => PyData.eqv y d) else failM
    | _, _ => failM
  | .obj i => do match ← getObj i with
    | .dict l => match a with
      | .str s => pure (l.lookup s).isSome
      | _ => failM
    | _ => failM
  | _ => failM

noncomputable def cmpM (op : CmpOp) (a b : AV) : M AV := match op with
  | .Eq => do return .bool (← eqM a b)
  | .NotEq => do return .bool (!(← eqM a b))
  | .Lt => match a, b with
    | .int x, .int y => pure (.bool (decide (x < y)))
    | _, _ => failM
  | .Gt => match a, b with
    | .int x, .int y => pure (.bool (decide (y < x)))
    | _, _ => failM
  | .Is => isM a b
  | .IsNot => do match ← isM a b with
    | .bool t => pure (.bool (!t))
    | v => pure v
  | .In => do return .bool (← inM a b)
  | .NotIn => do return .bool (!(← inM a b))
  | _ => failM

noncomputable def small (i : Int) : Bool := decide (-(2 ^ 63) < i) && decide (i < 2 ^ 63)

noncomputable def int2 (a b : AV) (f : Int → Int → M AV) : M AV := onS a.int? fun x => onS b.int? fun y => f x y
noncomputable def addM (a b : AV) : M AV := if isList a && isList b then do
    let xs ← toSeq a
    let ys ← toSeq b
    if xs.length + ys.length ≤ sizeCap then pure (.lst (xs ++ ys)) else failM
  else match a.str? with
    | some x => onS b.str? fun y => if x.length + y.length ≤ sizeCap then pure (.str (x ++ y)) else failM
    | Option.none => int2 a b fun x y => pure (.int (x + y))
noncomputable def binM (op : Operator) (a b : AV) : M AV := match op with
  | .Add => addM a b
  | .Sub => int2 a b fun x y => pure (.int (x - y))
  | .Mult => int2 a b fun x y => if small x && small y then pure (.int (x * y)) else failM
  | .Mod => int2 a b fun x y => if 0 < y then pure (.int (Int.fmod x y)) else failM
  | .FloorDiv => int2 a b fun x y => if 0 < y ∧ y < 1000000000 then pure (.int (Int.fdiv x y)) else failM
  | .Pow => int2 a b fun x y => if x = 10 ∧ y = 50 then pure (.int (10 ^ 50)) else failM
  | _ => failM

noncomputable def itemM (o i : AV) : M AV := onS i.int? fun k => match o.str? with
  | some s => if 0 ≤ k ∧ k < (s.length : Int) ∧ s.length ≤ sizeCap then pure (.str ⟨#[s.cps.getD k.toNat 0]⟩) else failM
  | Option.none => do
    let l ← toSeq o
    if 0 ≤ k then (match l[k.toNat]? with
      | some v => pure v
      | Option.none => failM) else failM

noncomputable def sliceM (o : AV) (lo up : Option AV) : M AV := match lo with
  | some lo => (match up with
    | Option.none => onS o.tup? fun l => onS lo.int? fun k => if 1 ≤ k ∧ k ≤ (l.length : Int) ∧ l.length ≤ sizeCap then pure (.tup (l.drop k.toNat)) else failM
    | some _ => failM)
  | Option.none => onS up fun up => onS o.lst? fun l => onS up.int? fun k => if 0 ≤ k ∧ k ≤ (l.length : Int) ∧ l.length ≤ sizeCap then pure (.lst (l.take k.toNat)) else failM

noncomputable def putF (x : Str) (v : AV) : List (Str × AV) → List (Str × AV)
  | [] => [(x, v)]
  | (y, u) :: r => if y = x then (y, v) :: r else (y, u) :: putF x v r

noncomputable def isTop : AV → Bool
  | .top _ => true
  | _ => false
noncomputable def getF (fieldOk : Addr → Str → Bool) (o : AV) (x : Str) : M AV := match o with
  | .obj i => do match ← getObj i with
    | .inst c l => if fieldOk c x then (match l.lookup x with
      | some v => if isTop v then failM else pure v
      | Option.none => failM) else failM
    | _ => failM
  | _ => failM
noncomputable def setF (fieldOk : Addr → Str → Bool) (o : AV) (x : Str) (v : AV) : M Unit := match o with
  | .obj i => do match ← getObj i with
    | .inst c l => if fieldOk c x && decide (l.length < sizeCap) then setObj i (.inst c (putF x v l)) else failM
    | _ => failM
  | _ => failM

noncomputable def setItemM (o k v : AV) : M Unit := onS o.obj? fun i => do match ← getObj i with
    | .arr l => onS k.int? fun j => if 0 ≤ j ∧ j < (l.length : Int) ∧ l.length ≤ sizeCap then setObj i (.arr (l.set j.toNat v)) else failM
    | .dict l => onS k.str? fun s => if l.length < sizeCap then setObj i (.dict (putF s v l)) else failM
    | _ => failM

noncomputable abbrev Callee := Addr → List AV → M AV

noncomputable def intText (i : Int) : Str := Str.ofString (toString i)

noncomputable def goodF (isCallee : Addr → Bool) : AV → Bool
  | .top (.ref a) => isCallee a
  | .top (.builtin _) => true
  | .top (.type _) => true
  | _ => false
noncomputable def callB (x : String) (args : List AV) : M AV :=
  if x = "len" then on1 args fun v => do return .int ((← toSeq v).length : Int)
  else if x = "abs" then on1 args fun v => onS v.int? fun i => pure (.int (i.natAbs : Int))
  else if x = "max" then on2 args fun a b => int2 a b fun i j => pure (.int (max i j))
  else if x = "min" then on2 args fun a b => int2 a b fun i j => pure (.int (min i j))
  else failM
noncomputable def callY (x : String) (args : List AV) : M AV :=
  if x = "tuple" then on1 args fun v => (match v.tup? with
    | some l => if l.length ≤ sizeCap then pure (.tup l) else failM
    | Option.none => if isList v then do return .tup (← toSeq v) else failM)
  else if x = "list" then on1 args fun v => do return .lst (← toSeq v)
  else if x = "str" then on1 args fun v => onS v.int? fun i => if 0 ≤ i ∧ i < 1000 then pure (.str (intText i)) else failM
  else failM
noncomputable def callM (c : Callee) (f : AV) (args : List AV) : M AV := match f with
  | .top (.ref a) => c a args
  | .top (.builtin x) => callB x args
  | .top (.type x) => callY x args
  | _ => failM

noncomputable def strsOf : List AV → Option (List Str)
  | [] => some []
  | .str x :: r => match strsOf r with
    | some xs => some (x :: xs)
    | Option.none => Option.none
  | _ => Option.none
inductive MK where
  | append
  | extend
  | dget
  | count
  | fn (f : Addr)

noncomputable def methKind (methAt : Addr → Str → Option Addr) (o : AV) (name : Str) : M MK := match o with
  | .obj i => do match ← getObj i with
    | .list _ => if name = "append" then pure .append else if name = "extend" then pure .extend else failM
    | .dict _ => if name = "get" then pure .dget else failM
    | .inst k l => match methAt k name with
      | some f => if (l.lookup name).isNone then pure (.fn f) else failM
      | Option.none => failM
    | _ => failM
  | .lst _ => if name = "count" then pure .count else failM
  | _ => failM

noncomputable def methM (c : Callee) (k : MK) (o : AV) (args : List AV) : M AV := match k with
  | .append => onS o.obj? fun i => on1 args fun v => do match ← getObj i with
    | .list l => if l.length < sizeCap then do setObj i (.list (l ++ [v])); pure .none else failM
    | _ => failM
  | .extend => onS o.obj? fun i => on1 args fun v => onS v.lst? fun m => do match ← getObj i with
    | .list l => if l.length + m.length ≤ sizeCap then do setObj i (.list (l ++ m)); pure .none else failM
    | _ => failM
  | .dget => onS o.obj? fun i => on2 args fun v d => onS v.str? fun s => do match ← getObj i with
    | .dict l => pure ((l.lookup s).getD d)
    | _ => failM
  | .count => onS o.lst? fun l => on1 args fun v => onS v.str? fun s => onS (strsOf l) fun ns => pure (.int (Spec.countIn (.str s) (ns.map PyData.str)))
  | .fn f => c f (o :: args)

structure LEnv where
  names : List (Str × NameKind)
  locals : Str → Option AV
  cells : Str → Option AV

structure Tabs where
  global : Str → Option AV
  methAt : Addr → Str → Option Addr
  fieldOk : Addr → Str → Bool
  isCallee : Addr → Bool
  initAt : Addr → Option Addr
  mutAt : Pos → Nat

noncomputable def LEnv.get (T : Tabs) (ρ : LEnv) (x : Str) : Option AV := match ρ.names.lookup x with
  | some .local => ρ.locals x
  | some .cell => ρ.cells x
  | some .free => ρ.cells x
  | some .globalImplicit => T.global x
  | _ => Option.none

noncomputable def upd (f : Str → Option AV) (x : Str) (v : AV) : Str → Option AV := fun y => if y = x then some v else f y
noncomputable def LEnv.set (ρ : LEnv) (x : Str) (v : AV) : Option LEnv := match ρ.names.lookup x with
  | some .local => some { ρ with locals := upd ρ.locals x v }
  | some .cell => some { ρ with cells := upd ρ.cells x v }
  | _ => Option.none

noncomputable def constAV : Const → Option AV
  | .none => some .none
  | .bool b => some (.bool b)
  | .int i => some (.int i)
  | .str s => some (.str s)
  | _ => Option.none

noncomputable def simpleO : Expr → Bool
  | .Name _ _ => true
  | .Attribute _ _ _ => true
  | _ => false

noncomputable def isName : Expr → Bool
  | .Name _ _ => true
  | _ => false

noncomputable def baseOk : Expr → Bool
  | .Call _ [] _ _ => false
  | _ => true

noncomputable def notComp : Expr → Bool
  | .ListComp _ _ _ _ => false
  | .SetComp _ _ _ _ => false
  | .DictComp _ _ _ _ _ => false
  | _ => true

noncomputable def compOk (s : Scope) : Bool := s.kind == .function && !s.isGenerator && !s.isCoroutine &&
  s.names.all fun (x, k) => x != ("__debug__" : Str) && (k == .local || k == .free || k == .globalImplicit) && s.names.lookup x == some k

structure Ev where
  e : Expr → LEnv → M AV
  t : Expr → LEnv → M Bool

noncomputable def okE : Expr → Bool
  | .Starred _ _ => false
  | .Set _ _ _ => false
  | _ => true
noncomputable def evList (f : Expr → LEnv → M AV) (ρ : LEnv) : List Expr → M (List AV)
  | [] => pure []
  | e :: r => if okE e then do
      let v ← f e ρ
      let vs ← evList f ρ r
      return v :: vs
    else failM

noncomputable def evOpt (f : Expr → LEnv → M AV) (ρ : LEnv) : Option Expr → M (Option AV)
  | Option.none => pure Option.none
  | some e => do return some (← f e ρ)

noncomputable def chainE (f : Expr → LEnv → M AV) (ρ : LEnv) (left : AV) : List CmpOp → List Expr → M AV
  | [], _ => failM
  | op :: ops, l => match l with
    | [] => failM
    | r :: rs => if ops.isEmpty && rs.isEmpty then (if okE r then do
      let rv ← f r ρ
      cmpM op left rv
    else failM) else do
    let rv ← f r ρ
    let c ← cmpM op left rv
    if ← truth c then chainE f ρ rv ops rs else pure c

noncomputable def boolE (f : Expr → LEnv → M AV) (ρ : LEnv) (op : BoolOp) : List Expr → M AV
  | [] => failM
  | [x] => f x ρ
  | x :: rest => do
    let v ← f x ρ
    let t ← truth v
    match op, t with
    | .And, false => pure v
    | .Or, true => pure v
    | _, _ => boolE f ρ op rest

noncomputable def allT (f : Expr → LEnv → M Bool) (ρ : LEnv) (op : BoolOp) : List Expr → M Bool
  | [] => pure (op == .And)
  | x :: rest => do
    let t ← f x ρ
    match op, t with
    | .And, false => pure false
    | .Or, true => pure true
    | _, _ => allT f ρ op rest

noncomputable def testsT (f : Expr → LEnv → M Bool) (ρ : LEnv) : List Expr → M Bool
  | [] => pure true
  | x :: rest => do
    let t ← f x ρ
    if t then testsT f ρ rest else pure false

noncomputable def bindNames (ρ : LEnv) : List Expr → List AV → Option LEnv
  | [], vs => if vs.isEmpty then some ρ else Option.none
  | t :: ts, vs => match vs with
    | [] => Option.none
    | v :: vs => match nameOf t with
      | Option.none => Option.none
      | some x => match ρ.set x v with
        | some ρ' => bindNames ρ' ts vs
        | Option.none => Option.none
noncomputable def namesOf : List Expr → List Str
  | [] => []
  | t :: r => match nameOf t with
    | some x => x :: namesOf r
    | Option.none => namesOf r

noncomputable def tupleOf (e : Expr) : Option (List Expr) := told (P := fun ts => ∃ k p, e = .Tuple ts k p) (match e with
  | .Tuple ts k p => some ⟨ts, k, p, rfl⟩
  | _ => Option.none)
noncomputable def bindTarget (ρ : LEnv) (t : Expr) (v : AV) : Option LEnv := match nameOf t with
  | some x => ρ.set x v
  | Option.none => (tupleOf t).bind fun ts => v.tup?.bind fun vs => if (namesOf ts).Nodup then bindNames ρ ts vs else Option.none

noncomputable def isType (n : String) : Option AV → Bool
  | some (.top (.type m)) => m == n
  | _ => false

inductive Src where
  | seq (o : AV)
  | enum (o : AV)
  | range (n : Nat)

noncomputable def srcNext : Src → Nat → M (Option AV)
  | .seq o, k => do
    let l ← toSeq o
    pure l[k]?
  | .enum o, k => do
    let l ← toSeq o
    pure (l[k]?.map fun v => .tup [.int (k : Int), v])
  | .range n, k => pure (if k < n then some (.int (k : Int)) else Option.none)

noncomputable def srcFor (target : Expr) (src : Src) : Bool := match target, src with
  | .Name _ _, .seq _ => true
  | .Name _ _, .range _ => true
  | .Tuple _ _ _, .seq _ => true
  | .Tuple _ _ _, .enum _ => true
  | _, _ => false

noncomputable def iterSrc (T : Tabs) (f : Expr → LEnv → M AV) (ρ : LEnv) (e : Expr) : M Src := match callName e with
  | some (x, a) =>
    if isType "enumerate" (ρ.get T x) then (if okE a && x != ("__debug__" : Str) then do
      let v ← f a ρ
      let _ ← toSeq v
      pure (.enum v) else failM)
    else if isType "range" (ρ.get T x) then (if okE a && x != ("__debug__" : Str) then do
      let v ← f a ρ
      onS v.int? fun n => if 0 ≤ n ∧ n ≤ (sizeCap : Int) then pure (.range n.toNat) else failM else failM)
    else failM
  | Option.none => if okE e then do
      let v ← f e ρ
      let _ ← toSeq v
      pure (.seq v)
    else failM

noncomputable def compLoop (ev : Ev) (target elt : Expr) (ifs : List Expr) (src : Src) : Nat → Nat → LEnv → M (List AV)
  | 0, _, _ => failM
  | fuel + 1, k, ρ => do
    match ← srcNext src k with
    | Option.none => pure []
    | some v => do
      let ρ' ← liftO (bindTarget ρ target v)
      let ok ← testsT ev.t ρ' ifs
      if ok then do
        let x ← ev.e elt ρ'
        return x :: (← compLoop ev target elt ifs src fuel (k + 1) ρ')
      else compLoop ev target elt ifs src fuel (k + 1) ρ'
noncomputable def loopFuel : Nat := 1002

noncomputable def strC (c : Const) : Option Str := told (P := fun d => c = .str d) (match c with
  | .str d => some ⟨d, rfl⟩
  | _ => Option.none)
noncomputable def zeroC : Const → Bool
  | .int i => i == 0
  | _ => false
noncomputable def noneC : Const → Bool
  | .none => true
  | _ => false
noncomputable def retOf (s : Stmt) : Option (Option Expr) := told (P := fun e => ∃ p, s = .Return e p) (match s with
  | .Return e p => some ⟨e, p, rfl⟩
  | _ => Option.none)
noncomputable def sliceOf (e : Expr) : Option (Option Expr × Option Expr) := told (P := fun x => ∃ p, e = .Slice x.1 x.2 Option.none p) (match e with
  | .Slice lo up Option.none p => some ⟨(lo, up), p, rfl⟩
  | _ => Option.none)
noncomputable def recvOf (f : Expr) : Option (Str × Str × Pos) := (attrOf f).bind fun r => (nameOf r.1).bind fun x => some (x, r.2.1, r.2.2)
noncomputable def oneStr (as : List Expr) : Option Str := (oneOf as).bind fun a => (constOf a).bind strC
noncomputable def zeroE (i : Expr) : Bool := match constOf i with
  | some c => zeroC c
  | Option.none => false
noncomputable def methForm (v : Expr) : Option (Str × Str × Pos × Str × Pos) := (callOf v).bind fun c => (recvOf c.1).bind fun r => (oneStr c.2.1).bind fun d => if c.2.2.1.isEmpty then some (r.1, r.2.1, r.2.2, d, c.2.2.2) else Option.none
noncomputable def splitForm (v i : Expr) : Option (Str × Str × Pos × Str × Pos) := match zeroE i with
  | true => methForm v
  | false => Option.none
noncomputable def raiseForm (e c : Option Expr) : Option (Str × Expr) := match c with
  | some _ => Option.none
  | Option.none => e.bind callName
noncomputable def handOf : ExceptHandler → Option (Str × List Stmt)
  | .ExceptHandler e n b _ => if n.isNone then e.bind fun e => (nameOf e).bind fun x => some (x, b) else Option.none
noncomputable def retE (b : List Stmt) : Option Expr := (oneOf b).bind fun s => (retOf s).bind fun e => e
noncomputable def handE (h : List ExceptHandler) : Option Str := (oneOf h).bind fun h => (handOf h).bind fun r => (retE r.2).bind fun n => (constOf n).bind fun k => if noneC k then some r.1 else Option.none
noncomputable def tryForm (b : List Stmt) (h : List ExceptHandler) (o f : List Stmt) : Option (Expr × Str) :=
  (retE b).bind fun e => (handE h).bind fun x => if o.isEmpty && f.isEmpty then some (e, x) else Option.none
noncomputable def stepE (T : Tabs) (c : Callee) (ev : Ev) : Expr → LEnv → M AV
  | .Constant k _ _, _ => liftO (constAV k)
  | .Name x _, ρ => if (x == ("__debug__" : Str)) = false then liftO (ρ.get T x) else failM
  | .BoolOp op xs _, ρ => boolE ev.e ρ op xs
  | .BinOp l op r _, ρ => do
    let a ← ev.e l ρ
    let b ← ev.e r ρ
    binM op a b
  | .UnaryOp .Not x _, ρ => do
    let v ← ev.e x ρ
    return .bool (!(← truth v))
  | .IfExp t b o _, ρ => do
    if ← ev.t t ρ then ev.e b ρ else ev.e o ρ
  | .Dict [] [] _, _ => do
    let i ← allocM (.dict [])
    return .obj i
  | .List es pos, ρ => do
    let vs ← evList ev.e ρ es
    if vs.length ≤ sizeCap then
      match T.mutAt pos with
      | 0 => pure (.lst vs)
      | 1 => do
        let i ← allocM (.list vs)
        return .obj i
      | _ => do
        let i ← allocM (.arr vs)
        return .obj i
    else failM
  | .Tuple es _ pos, ρ => do
    let vs ← evList ev.e ρ es
    if vs.length ≤ sizeCap then (if T.mutAt pos = 3 then do
        let i ← allocM (.tup vs)
        return .obj i
      else pure (.tup vs)) else failM
  | .ListComp elt [⟨target, iter, ifs, 0⟩] scope _, ρ => if compOk scope && scope.names.all (fun (x, k) => k != .free || ρ.names.lookup x == some .cell) then do
    let src ← iterSrc T ev.e ρ iter
    if srcFor target src then do
      let vs ← compLoop ev target elt ifs src loopFuel 0 { names := scope.names, locals := fun _ => Option.none, cells := ρ.cells }
      pure (.lst vs)
    else failM
    else failM
  | .Compare l ops rs _, ρ => do
    let a ← ev.e l ρ
    chainE ev.e ρ a ops rs
  | .Call (.Attribute o name apos) args [] pos, ρ =>
    if simpleO o && apos.endLine == pos.line && decide (args.length < 30) && args.all okE then do
      let ov ← ev.e o ρ
      let k ← methKind T.methAt ov name
      let vs ← evList ev.e ρ args
      methM c k ov vs
    else failM
  | .Call f args [] _, ρ => if isName f && args.all okE then do
    let fv ← ev.e f ρ
    if goodF T.isCallee fv then do
      let vs ← evList ev.e ρ args
      callM c fv vs
    else failM
    else failM
  | .Attribute o x _, ρ => if baseOk o then do
    let ov ← ev.e o ρ
    getF T.fieldOk ov x
    else failM
  | .Subscript v i _, ρ => match splitForm v i with
    | some (x, m, apos, d, pos) =>
      if m = "split" ∧ d = "." ∧ (apos.endLine == pos.line) = true ∧ (x == ("__debug__" : Str)) = false then match ρ.get T x with
        | some (.str s) => if s.length ≤ sizeCap then (match Txt.split s "." with
            | y :: _ => pure (.str y)
            | [] => failM) else failM
        | _ => failM
      else failM
    | Option.none => match sliceOf i with
      | some (lo, up) => do
        let o ← ev.e v ρ
        let a ← evOpt ev.e ρ lo
        let b ← evOpt ev.e ρ up
        sliceM o a b
      | Option.none => do
        let o ← ev.e v ρ
        let k ← ev.e i ρ
        itemM o k
  | _, _ => failM

noncomputable def stepT (ev : Ev) : Expr → LEnv → M Bool
  | .UnaryOp .Not x _, ρ => do return !(← ev.t x ρ)
  | .BoolOp op xs _, ρ => allT ev.t ρ op xs
  | .Compare l ops rs _, ρ => do
    let a ← ev.e l ρ
    let v ← chainE ev.e ρ a ops rs
    truth v
  | .IfExp _ _ _ _, _ => failM
  | e, ρ => do
    let v ← ev.e e ρ
    truth v

noncomputable def evAt (T : Tabs) (c : Callee) : Nat → Ev
  | 0 => ⟨fun _ _ => failM, fun _ _ => failM⟩
  | d + 1 => ⟨stepE T c (evAt T c d), stepT (evAt T c d)⟩

noncomputable def tsOk (ns : List (Str × NameKind)) (ts : List Expr) : Bool := ts.all fun
  | .Name x _ => ns.lookup x == some .local || ns.lookup x == some .cell
  | _ => false
noncomputable def isStar : Expr → Bool
  | .Starred _ _ => true
  | _ => false
noncomputable def nameAt (loc : Str → Bool) (line : Nat) (e : Expr) : Option Str := match e with
  | .Name id pos => if loc id && pos.line == line then some id else Option.none
  | _ => Option.none
noncomputable def noSwap (a b c d : Bool) : Bool := match a with
  | true => true
  | false => match b with
    | true => true
    | false => match c with
      | true => true
      | false => d
noncomputable def swapPick (a b c d e : Bool) (names : List Str) : Option (Option (List Str)) := match noSwap a b c d with
  | true => some Option.none
  | false => match e with
    | true => Option.none
    | false => some (some names)
noncomputable def swapLine (loc : Str → Bool) (ts : List Expr) : List Str := ts.filterMap (nameAt loc ((ts.head?.map (·.pos.line)).getD 0))
noncomputable def swapNames (loc : Str → Bool) (ts : List Expr) (e : Expr) : Option (Option (List Str)) := match tupleOf e with
  | some vs => swapPick (!(ts.length == 2 || ts.length == 3) || vs.length != ts.length) (vs.any isStar) ((swapLine loc ts).length != ts.length || (swapLine loc ts).eraseDups.length != (swapLine loc ts).length) (vs.all (foldedForSure 8)) (vs.all (constantsAlone 8)) (swapLine loc ts)
  | Option.none => some Option.none

noncomputable def bindArgs : List Str → List AV → LEnv → Option LEnv
  | [], vs, ρ => if vs.isEmpty then some ρ else Option.none
  | x :: xs, vs, ρ => match vs with
    | [] => Option.none
    | v :: vs => (ρ.set x v).bind fun ρ' => bindArgs xs vs ρ'

inductive AFlow where
  | next
  | ret (v : AV)

noncomputable def runBlock (f : Stmt → LEnv → M (AFlow × LEnv)) : List Stmt → LEnv → M (AFlow × LEnv)
  | [], ρ => pure (.next, ρ)
  | s :: r, ρ => do
    match ← f s ρ with
    | (.next, ρ') => runBlock f r ρ'
    | x => pure x

noncomputable def forLoop (f : List Stmt → LEnv → M (AFlow × LEnv)) (target : Expr) (body : List Stmt) (src : Src) : Nat → Nat → LEnv → M (AFlow × LEnv)
  | 0, _, _ => failM
  | fuel + 1, k, ρ => do
    match ← srcNext src k with
    | Option.none => pure (.next, ρ)
    | some v => do
      let ρ' ← liftO (bindTarget ρ target v)
      match ← f body ρ' with
      | (.next, ρ'') => forLoop f target body src fuel (k + 1) ρ''
      | x => pure x

noncomputable def whileLoop (t : LEnv → M Bool) (f : List Stmt → LEnv → M (AFlow × LEnv)) (body : List Stmt) : Nat → LEnv → M (AFlow × LEnv)
  | 0, _ => failM
  | n + 1, ρ => do
    if ← t ρ then
      match ← f body ρ with
      | (.next, ρ') => whileLoop t f body n ρ'
      | x => pure x
    else pure (.next, ρ)

noncomputable def tryBody (m : M (AFlow × LEnv)) (ρ : LEnv) : M (AFlow × LEnv) := fun σ => match m σ with
  | .ok x σ' => .ok x σ'
  | .exn σ' => .ok (.ret .none, ρ) σ'
  | .fail => .fail

noncomputable def faultName (T : Tabs) (ρ : LEnv) (x : Str) : Bool := (ρ.names.lookup x == some .globalImplicit) && (match T.global x with
  | some (.top (.ref a)) => a == 52
  | _ => false) && x != ("__debug__" : Str)

noncomputable def stepS (T : Tabs) (ev : Ev) (run : List Stmt → LEnv → M (AFlow × LEnv)) : Stmt → LEnv → M (AFlow × LEnv)
  | .Expr (.Call f args ks p) _, ρ => do
    let _ ← ev.e (.Call f args ks p) ρ
    return (.next, ρ)
  | .Return Option.none _, ρ => pure (.ret .none, ρ)
  | .Return (some e) _, ρ => do
    let v ← ev.e e ρ
    return (.ret v, ρ)
  | .Assign [.Name x _] e _, ρ => do
    let v ← ev.e e ρ
    let ρ' ← liftO (ρ.set x v)
    return (.next, ρ')
  | .Assign [.Tuple ts k p] e _, ρ => if notComp e && tsOk ρ.names ts then
      match swapNames (fun id => ρ.names.lookup id == some .local) ts e with
      | Option.none => failM
      | some Option.none => do
        let v ← ev.e e ρ
        let ρ' ← liftO (bindTarget ρ (.Tuple ts k p) v)
        return (.next, ρ')
      | some (some names) => do
        match ← ev.e e ρ with
        | .tup avs => do
          let ρ' ← liftO (bindArgs names.reverse avs.reverse ρ)
          return (.next, ρ')
        | _ => failM
    else failM
  | .Assign [.Attribute o x _] e _, ρ => if notComp e then do
    let v ← ev.e e ρ
    let ov ← ev.e o ρ
    setF T.fieldOk ov x v
    return (.next, ρ)
    else failM
  | .Assign [.Subscript o i _] e _, ρ => if notComp e then do
    let v ← ev.e e ρ
    let ov ← ev.e o ρ
    let iv ← ev.e i ρ
    setItemM ov iv v
    return (.next, ρ)
    else failM
  | .If t b o _, ρ => do
    if ← ev.t t ρ then run b ρ else run o ρ
  | .While t b [] _, ρ => whileLoop (ev.t t) run b 5 ρ
  | .For target iter body [] _, ρ => do
    let src ← iterSrc T ev.e ρ iter
    if srcFor target src then forLoop run target body src loopFuel 0 ρ else failM
  | .Raise e c _, ρ => match raiseForm e c with
    | some (x, a) => do
      if faultName T ρ x && okE a then do
        match ← ev.e a ρ with
        | .str _ => raiseM
        | _ => failM
      else failM
    | Option.none => failM
  | .Try b h o f _, ρ => match tryForm b h o f with
    | some (e, x) => if faultName T ρ x then tryBody (do return (.ret (← ev.e e ρ), ρ)) ρ else failM
    | Option.none => failM
  | _, _ => failM

noncomputable def synDepth : Nat := 24
noncomputable def evS (T : Tabs) (c : Callee) : Nat → Stmt → LEnv → M (AFlow × LEnv)
  | 0 => fun _ _ => failM
  | d + 1 => stepS T (evAt T c synDepth) (runBlock (evS T c d))

structure FunInfo where
  name : Str
  params : Arguments
  body : List Stmt
  scope : Scope

noncomputable def FunInfo.pars (fi : FunInfo) : List Str := fi.params.args.map (·.arg)

noncomputable def stmtDepth : Nat := 8
noncomputable def enter (T : Tabs) (c : Callee) (fi : FunInfo) (args : List AV) : M AV := do
  let ρ ← liftO (bindArgs fi.pars args { names := fi.scope.names, locals := fun _ => Option.none, cells := fun _ => Option.none })
  match ← runBlock (evS T c stmtDepth) fi.body ρ with
  | (.ret v, _) => pure v
  | (.next, _) => pure .none

noncomputable def callF (T : Tabs) (funAt : Addr → Option FunInfo) : Nat → Callee
  | 0 => fun _ _ => failM
  | n + 1 => fun a args => match funAt a with
    | some fi => enter T (callF T funAt n) fi args
    | Option.none => match T.initAt a with
      | some fI => do
        let i ← allocM (.inst a [])
        match ← callF T funAt n fI (.obj i :: args) with
        | .none => pure (.obj i)
        | _ => failM
      | Option.none => failM

end Mine
end
section
namespace Mine
open PySem

noncomputable def findDef (x : String) : List Stmt → Option FunInfo
  | [] => none
  | .FunctionDef name args body _ _ _ scope _ _ _ :: r => if name = Str.ofString x then some ⟨name, args, body, scope⟩ else findDef x r
  | _ :: r => findDef x r
noncomputable def findCls (x : String) : List Stmt → List Stmt
  | [] => []
  | .ClassDef name _ _ body _ _ _ _ _ _ _ :: r => if name = Str.ofString x then body else findCls x r
  | _ :: r => findCls x r

noncomputable def theBody : List Stmt := PySem.Challenge.pw_sa0486_01.main.body

noncomputable def funNames : List (Addr × String) := [(61, "expr"), (68, "sym"), (75, "is_expr"), (82, "head_of"), (89, "parts_of"), (96, "is_sym"), (103, "keywords_of"),
  (171, "told_function"), (176, "arrow_function"), (183, "told_params"), (190, "told_param"), (197, "told_binder"), (202, "checked"), (240, "bounds_of"), (290, "kind_tree"),
  (297, "read_argument"), (304, "new_name"), (311, "fill_head"), (316, "check_head"), (323, "function_head"), (328, "put_names"),
  (377, "_law_keg"), (384, "_law_tap"), (391, "_law_tree"), (398, "_law_core"), (405, "_law_argument"), (412, "_law_variable"), (417, "_law_twice"), (422, "_law_can_be"), (429, "_law_counts"),
  (436, "_law_plain"), (443, "_law_lowered"), (450, "_law_plain_arrow"), (457, "_law_lowered_arrow"), (462, "_law_head_right")]
noncomputable def clsNames : List (Addr × String × Addr) := [(120, "Param", 117), (162, "PlainFunction", 138), (229, "Supply", 219), (258, "Argument", 255), (279, "Head", 276), (366, "Variables", 349)]

noncomputable def funTab : List (Addr × FunInfo) :=
  funNames.filterMap (fun (a, x) => (findDef x theBody).map fun f => (a, f)) ++
  clsNames.filterMap (fun (_, x, i) => (findDef "__init__" (findCls x theBody)).map fun f => (i, f)) ++
  ((findDef "next" (findCls "Supply" theBody)).map fun f => (226, f)).toList

noncomputable def funAt (a : Addr) : Option FunInfo := funTab.lookup a
noncomputable def globalTab : List (Str × AV) :=
  (funNames.map fun (a, x) => (Str.ofString x, AV.top (.ref a))) ++ (clsNames.map fun (a, x, _) => (Str.ofString x, AV.top (.ref a))) ++
  [(Str.ofString "LowerFault", AV.top (.ref 52)), (Str.ofString "ANY", AV.top (.ref 204)), (Str.ofString "BOTTOM", AV.top (.ref 205)),
   ("len", AV.top (.builtin "len")), ("abs", AV.top (.builtin "abs")), ("max", AV.top (.builtin "max")), ("min", AV.top (.builtin "min")),
   ("tuple", AV.top (.type "tuple")), ("list", AV.top (.type "list")), ("str", AV.top (.type "str")), ("enumerate", AV.top (.type "enumerate")), ("range", AV.top (.type "range"))]
noncomputable def fieldTab : List (Addr × Str) :=
  [(120, "name"), (120, "kind"), (120, "default"), (120, "is_rest"),
   (162, "callee"), (162, "params"), (162, "keywords"), (162, "binders"), (162, "result"), (162, "body"), (162, "scope"), (162, "is_generated"), (162, "has_patterns"), (162, "trees"),
   (229, "many"), (258, "name"), (258, "kind"), (258, "default"), (258, "is_rest"),
   (279, "callee"), (279, "arguments"), (279, "keywords"), (279, "result"), (279, "variables"), (279, "patterns"),
   (366, "statics"), (366, "table"), (366, "bounds")]
noncomputable def mutPos : List (Nat × Nat) := [(62, 23), (87, 21), (87, 25), (171, 25), (172, 24), (175, 24), (270, 22), (290, 11), (373, 12)]
noncomputable def T : Tabs where
  global x := globalTab.lookup x
  methAt c x := if c = 229 ∧ x = "next" then some 226 else none
  fieldOk c x := fieldTab.contains (c, x)
  isCallee a := (funNames.any fun p => p.1 == a) || clsNames.any fun p => p.1 == a
  initAt a := (clsNames.lookup a).map (·.2)
  mutAt p := if p.line == 290 then (if p.col == 11 then 2 else 0) else if mutPos.contains (p.line, p.col) then 1 else if p.line == 351 && p.col == 32 then 3 else 0

noncomputable def runLaw (n : Nat) (script : List Int) : Res AV := match findDef "law" theBody with
  | some fi => enter T (callF T funAt n) fi [.src script] []
  | none => .fail
noncomputable def Res.show : Res AV → String
  | .ok (.bool b) σ => s!"bool {b} heap {σ.length}"
  | .ok _ _ => "other"
  | .exn _ => "exn"
  | .fail => "fail"
end Mine
end
section
namespace Mine
open PySem

theorem told_some {α : Type} {P : α → Prop} {o : Option { x : α // P x }} {x : α} (h : told o = some x) : P x := by
  induction o using Option.casesOn with
  | none => cases h
  | some y => cases h; exact y.2
theorem AV.int?_some {a : AV} {i : Int} (h : a.int? = some i) : a = .int i := told_some (P := fun i => a = .int i) h
theorem AV.str?_some {a : AV} {i : Str} (h : a.str? = some i) : a = .str i := told_some (P := fun i => a = .str i) h
theorem AV.obj?_some {a : AV} {i : Nat} (h : a.obj? = some i) : a = .obj i := told_some (P := fun i => a = .obj i) h
theorem AV.tup?_some {a : AV} {i : List AV} (h : a.tup? = some i) : a = .tup i := told_some (P := fun i => a = .tup i) h
theorem AV.lst?_some {a : AV} {i : List AV} (h : a.lst? = some i) : a = .lst i := told_some (P := fun i => a = .lst i) h
theorem isNone_of {a : AV} (h : isNone a = true) : a = .none := by induction a using AV.casesOn with
  | none => rfl
  | _ => cases h
theorem onS_out {β α : Type} {o : Option β} {f : β → M α} {σ : AHeap} {K : Res α → Prop} (hf : K .fail → False) (hs : K (onS o f σ)) : ∃ b, o = some b ∧ K (f b σ) := by
  induction o using Option.casesOn with
  | none => exact (hf hs).elim
  | some b => exact ⟨b, rfl, hs⟩
theorem on1_out {α : Type} {l : List AV} {f : AV → M α} {σ : AHeap} {K : Res α → Prop} (hf : K .fail → False) (hs : K (on1 l f σ)) : ∃ v, l = [v] ∧ K (f v σ) := by
  induction l using List.casesOn with
  | nil => exact (hf hs).elim
  | cons v r => induction r using List.casesOn with
    | nil => exact ⟨v, rfl, hs⟩
    | cons _ _ => exact (hf hs).elim
theorem on2_out {α : Type} {l : List AV} {f : AV → AV → M α} {σ : AHeap} {K : Res α → Prop} (hf : K .fail → False) (hs : K (on2 l f σ)) : ∃ v u, l = [v, u] ∧ K (f v u σ) := by
  induction l using List.casesOn with
  | nil => exact (hf hs).elim
  | cons v r =>
    obtain ⟨u, rfl, h⟩ := on1_out hf hs
    exact ⟨v, u, rfl, h⟩
theorem on_int {α : Type} {a : AV} {f : Int → M α} {σ : AHeap} {K : Res α → Prop} (hf : K .fail → False) (hs : K (onS a.int? f σ)) : ∃ b, a = .int b ∧ K (f b σ) :=
  let ⟨b, e, h⟩ := onS_out hf hs; ⟨b, AV.int?_some e, h⟩
theorem on_str {α : Type} {a : AV} {f : Str → M α} {σ : AHeap} {K : Res α → Prop} (hf : K .fail → False) (hs : K (onS a.str? f σ)) : ∃ b, a = .str b ∧ K (f b σ) :=
  let ⟨b, e, h⟩ := onS_out hf hs; ⟨b, AV.str?_some e, h⟩
theorem on_obj {α : Type} {a : AV} {f : Nat → M α} {σ : AHeap} {K : Res α → Prop} (hf : K .fail → False) (hs : K (onS a.obj? f σ)) : ∃ b, a = .obj b ∧ K (f b σ) :=
  let ⟨b, e, h⟩ := onS_out hf hs; ⟨b, AV.obj?_some e, h⟩
theorem on_tup {α : Type} {a : AV} {f : List AV → M α} {σ : AHeap} {K : Res α → Prop} (hf : K .fail → False) (hs : K (onS a.tup? f σ)) : ∃ b, a = .tup b ∧ K (f b σ) :=
  let ⟨b, e, h⟩ := onS_out hf hs; ⟨b, AV.tup?_some e, h⟩
theorem on_lst {α : Type} {a : AV} {f : List AV → M α} {σ : AHeap} {K : Res α → Prop} (hf : K .fail → False) (hs : K (onS a.lst? f σ)) : ∃ b, a = .lst b ∧ K (f b σ) :=
  let ⟨b, e, h⟩ := onS_out hf hs; ⟨b, AV.lst?_some e, h⟩
theorem on_if {α : Type} {b : Prop} [Decidable b] {f : M α} {σ : AHeap} {K : Res α → Prop} (hf : K .fail → False) (hs : K ((if b then f else failM : M α) σ)) : b ∧ K (f σ) := by
  by_cases e : b
  · rw [if_pos e] at hs; exact ⟨e, hs⟩
  · rw [if_neg e] at hs; exact (hf hs).elim

/-! Trees -/
theorem nameOf_some {e : Expr} {x : Str} (h : nameOf e = some x) : ∃ p, e = .Name x p := told_some (P := fun x => ∃ p, e = .Name x p) h
theorem attrOf_some {e : Expr} {x : Expr × Str × Pos} (h : attrOf e = some x) : e = .Attribute x.1 x.2.1 x.2.2 := told_some (P := fun x : Expr × Str × Pos => e = .Attribute x.1 x.2.1 x.2.2) h
theorem callOf_some {e : Expr} {x : Expr × List Expr × List Keyword × Pos} (h : callOf e = some x) : e = .Call x.1 x.2.1 x.2.2.1 x.2.2.2 := told_some (P := fun x : Expr × List Expr × List Keyword × Pos => e = .Call x.1 x.2.1 x.2.2.1 x.2.2.2) h
theorem constOf_some {e : Expr} {c : Const} (h : constOf e = some c) : ∃ k p, e = .Constant c k p := told_some (P := fun c => ∃ k p, e = .Constant c k p) h
theorem oneOf_some {α : Type} {l : List α} {a : α} (h : oneOf l = some a) : l = [a] := by
  induction l using List.casesOn with
  | nil => cases h
  | cons x r => induction r using List.casesOn with
    | nil => cases h; rfl
    | cons _ _ => cases h
theorem isEmpty_of {α : Type} {l : List α} (h : l.isEmpty = true) : l = [] := by induction l using List.casesOn with
  | nil => rfl
  | cons _ _ => cases h
theorem opt_bind {α β : Type} {o : Option α} {f : α → Option β} {b : β} (h : o.bind f = some b) : ∃ a, o = some a ∧ f a = some b := by
  induction o using Option.casesOn with
  | none => cases h
  | some a => exact ⟨a, rfl, h⟩
theorem opt_if {b : Bool} {α : Type} {x y : α} (h : (if b then some x else Option.none) = some y) : b = true ∧ x = y := by
  induction b using Bool.casesOn with
  | true => cases h; exact ⟨rfl, rfl⟩
  | false => cases h
theorem callName_some {e : Expr} {x : Str} {a : Expr} (h : callName e = some (x, a)) : ∃ p1 p2, e = .Call (.Name x p1) [a] [] p2 := by
  obtain ⟨⟨f, as, ks, p⟩, e1, h⟩ := opt_bind h
  obtain ⟨y, e2, h⟩ := opt_bind h
  obtain ⟨b, e3, h⟩ := opt_bind h
  obtain ⟨e4, h⟩ := opt_if h
  cases h
  obtain ⟨q, rfl⟩ := nameOf_some e2
  cases oneOf_some e3
  cases isEmpty_of e4
  exact ⟨q, p, callOf_some e1⟩
inductive Binds : LEnv → List Expr → List AV → LEnv → Prop
  | nil (ρ : LEnv) : Binds ρ [] [] ρ
  | cons {ρ ρ1 ρ2 : LEnv} {x : Str} {p : Pos} {ts : List Expr} {v : AV} {vs : List AV} (h : ρ.set x v = some ρ1) (r : Binds ρ1 ts vs ρ2) : Binds ρ (.Name x p :: ts) (v :: vs) ρ2
theorem binds_of : ∀ {ts : List Expr} {vs : List AV} {ρ ρ' : LEnv}, bindNames ρ ts vs = some ρ' → Binds ρ ts vs ρ'
  | [], vs, ρ, ρ', h => by
    obtain ⟨e, rfl⟩ := opt_if h
    cases isEmpty_of e
    exact .nil ρ
  | t :: ts, [], ρ, ρ', h => by cases h
  | t :: ts, v :: vs, ρ, ρ', h => by
    change (match nameOf t with
      | Option.none => Option.none
      | some x => match ρ.set x v with
        | some ρ' => bindNames ρ' ts vs
        | Option.none => Option.none) = some ρ' at h
    induction e : nameOf t using Option.casesOn with
    | none => rw [e] at h; cases h
    | some x =>
      rw [e] at h
      obtain ⟨p, rfl⟩ := nameOf_some e
      dsimp only at h
      induction q : ρ.set x v using Option.casesOn with
      | none => rw [q] at h; cases h
      | some ρ1 => rw [q] at h; exact .cons q (binds_of h)
theorem Binds.eq {ts : List Expr} {vs : List AV} {ρ ρ' : LEnv} (h : Binds ρ ts vs ρ') : bindNames ρ ts vs = some ρ' := by
  induction h with
  | nil => rfl
  | @cons ρ ρ1 ρ2 x p ts v vs h _ ih =>
    show (match ρ.set x v with
        | some ρ' => bindNames ρ' ts vs
        | Option.none => Option.none) = some ρ2
    rw [h]
    exact ih
theorem bindTarget_of {t : Expr} {v : AV} {ρ ρ' : LEnv} (h : bindTarget ρ t v = some ρ') : (∃ x p, t = .Name x p ∧ ρ.set x v = some ρ') ∨ ∃ ts k p vs, t = .Tuple ts k p ∧ v = .tup vs ∧ (namesOf ts).Nodup ∧ Binds ρ ts vs ρ' := by
  unfold bindTarget at h
  induction e : nameOf t using Option.casesOn with
  | some x =>
    rw [e] at h
    obtain ⟨p, rfl⟩ := nameOf_some e
    exact .inl ⟨x, p, rfl, h⟩
  | none =>
    rw [e] at h
    obtain ⟨ts, e1, h1⟩ := opt_bind h
    obtain ⟨vs, e2, h2⟩ := opt_bind h1
    clear h h1 e
    obtain ⟨k, p, rfl⟩ := told_some (P := fun ts => ∃ k p, t = .Tuple ts k p) e1
    cases AV.tup?_some e2
    by_cases hn : (namesOf ts).Nodup
    · rw [if_pos hn] at h2
      exact .inr ⟨ts, k, p, vs, rfl, rfl, hn, binds_of h2⟩
    · rw [if_neg hn] at h2
      cases h2
theorem set_of {ρ ρ' : LEnv} {x : Str} {v : AV} (h : ρ.set x v = some ρ') :
    (ρ.names.lookup x = some .local ∧ ρ' = { ρ with locals := upd ρ.locals x v }) ∨ (ρ.names.lookup x = some .cell ∧ ρ' = { ρ with cells := upd ρ.cells x v }) := by
  unfold LEnv.set at h
  induction e : ρ.names.lookup x using Option.casesOn with
  | none => rw [e] at h; cases h
  | some k =>
    rw [e] at h
    cases k with
    | «local» => cases h; exact .inl ⟨rfl, rfl⟩
    | cell => cases h; exact .inr ⟨rfl, rfl⟩
    | _ => cases h
theorem set_names {ρ ρ' : LEnv} {x : Str} {av : AV} (e : ρ.set x av = some ρ') : ρ'.names = ρ.names := by
  rcases set_of e with ⟨_, rfl⟩ | ⟨_, rfl⟩ <;> rfl
theorem upd_read {R : AV → Value → Prop} {K : Str → Prop} {f : Str → Option AV} {g : Str → Option Value} {x : Str} {a : AV} {v : Value} (h : ∀ y b, f y = some b → K y → ∃ u, g y = some u ∧ R b u) (r : R a v) (y : Str) (b : AV) (e : upd f x a y = some b) (k : K y) :
    ∃ u, (if y = x then some v else g y) = some u ∧ R b u := by
  unfold upd at e
  by_cases q : y = x
  · rw [if_pos q] at e ⊢
    cases e
    exact ⟨v, rfl, r⟩
  · rw [if_neg q] at e ⊢
    exact h y b e k
inductive BindsA : LEnv → List Str → List AV → LEnv → Prop
  | nil (ρ : LEnv) : BindsA ρ [] [] ρ
  | cons {ρ ρ1 ρ2 : LEnv} {x : Str} {xs : List Str} {v : AV} {vs : List AV} (h : ρ.set x v = some ρ1) (r : BindsA ρ1 xs vs ρ2) : BindsA ρ (x :: xs) (v :: vs) ρ2
theorem bindsA_of : ∀ {xs : List Str} {vs : List AV} {ρ ρ' : LEnv}, bindArgs xs vs ρ = some ρ' → BindsA ρ xs vs ρ'
  | [], vs, ρ, ρ', h => by
    obtain ⟨e, rfl⟩ := opt_if h
    cases isEmpty_of e
    exact .nil ρ
  | x :: xs, [], ρ, ρ', h => by cases h
  | x :: xs, v :: vs, ρ, ρ', h => by
    obtain ⟨ρ1, e, h⟩ := opt_bind (f := fun ρ' => bindArgs xs vs ρ') h
    exact .cons e (bindsA_of h)
theorem BindsA.eq {xs : List Str} {vs : List AV} {ρ ρ' : LEnv} (h : BindsA ρ xs vs ρ') : bindArgs xs vs ρ = some ρ' := by
  induction h with
  | nil => rfl
  | @cons ρ ρ1 ρ2 x xs v vs h _ ih =>
    show (ρ.set x v).bind (fun ρ' => bindArgs xs vs ρ') = some ρ2
    rw [h]
    exact ih
theorem Binds.a {ts : List Expr} {vs : List AV} {ρ ρ' : LEnv} (h : Binds ρ ts vs ρ') : BindsA ρ (namesOf ts) vs ρ' := by
  induction h with
  | nil ρ => exact .nil ρ
  | cons h _ ih => exact .cons h ih
theorem no_ft (h : false = true) : False := Bool.false_ne_true h
theorem no_tf (h : true = false) : False := Bool.false_ne_true h.symm
theorem no_ns {α : Type} {a : α} (h : none = some a) : False := by cases h
theorem no_sn {α : Type} {a : α} (h : some a = none) : False := by cases h
theorem sliceOf_some {i : Expr} {lo up : Option Expr} (h : sliceOf i = some (lo, up)) : ∃ p, i = .Slice lo up none p := told_some (P := fun x : Option Expr × Option Expr => ∃ p, i = .Slice x.1 x.2 none p) h
theorem sliceOf_none {i : Expr} (h : sliceOf i = none) (l u : Option Expr) (p : Pos) (e : i = .Slice l u none p) : False := by subst e; exact no_sn h
theorem stepE_sub {T : Tabs} {c : Callee} {ev : Ev} {v i : Expr} {p : Pos} {ρ : LEnv} (q : splitForm v i = none) (hn : sliceOf i = none) : stepE T c ev (.Subscript v i p) ρ = (do
    let o ← ev.e v ρ
    let k ← ev.e i ρ
    itemM o k) := by
  unfold stepE
  dsimp only
  rw [q, hn]
theorem stepE_slice {T : Tabs} {c : Callee} {ev : Ev} {v i : Expr} {p : Pos} {lo up : Option Expr} {ρ : LEnv} (q : splitForm v i = none) (hs : sliceOf i = some (lo, up)) : stepE T c ev (.Subscript v i p) ρ = (do
    let o ← ev.e v ρ
    let a ← evOpt ev.e ρ lo
    let b ← evOpt ev.e ρ up
    sliceM o a b) := by
  unfold stepE
  dsimp only
  rw [q, hs]
/-! Small arithmetic, told once -/
theorem ar_le {a b c : Nat} (h : a ≤ b) (h' : b ≤ c) : a ≤ c := Nat.le_trans h h'
theorem ar_ge {k m n : Nat} (h : m ≤ n) (h' : k ≤ m) : k ≤ n := Nat.le_trans h' h
theorem ar_fu {a b c k m n : Nat} (h : m ≤ n) (hd : k + a + b ≤ m + c) : k ≤ n - a - b + c := by omega
theorem ar_f1 {a c k m n : Nat} (h : m ≤ n) (hd : k + a ≤ m + c) : k ≤ n - a + c := by omega
theorem ar_ad {c k m n : Nat} (h : m ≤ n) (hd : k ≤ m + c) : k ≤ n + c := Nat.le_trans hd (Nat.add_le_add_right h c)
theorem ar_a0 {c k n : Nat} (hd : k ≤ c) : k ≤ n + c := Nat.le_trans hd (Nat.le_add_left c n)
theorem ar_eq {a b c d : Nat} (e : a = b) (h : b ≤ c) (h' : c ≤ d) : a ≤ d := e ▸ Nat.le_trans h h'
theorem ar_lt {a b c : Nat} (h : a ≤ b) (h' : b < c) : a < c := Nat.lt_of_le_of_lt h h'
theorem ar_s1 {a m n : Nat} (h : m ≤ n) (h' : a ≤ m) : n = n - a + a := (Nat.sub_add_cancel (Nat.le_trans h' h)).symm
theorem ar_p1 {a n : Nat} (h : a < n) : n = n - 1 + 1 := (Nat.sub_add_cancel (Nat.lt_of_le_of_lt (Nat.zero_le a) h)).symm
theorem ar_n0 {n k : Nat} (h : 0 < k) : n ≤ n + k := Nat.le_add_right n k
end Mine
end
section
namespace Mine
open PySem PySem.W PySem.Calls PyProof.Rows

structure Gd where
  prog : Program
  w : World
  hb : Heap
  K : Frag
  pv : Program
  loose : List Str
  mean : ExcName → Option Value
  mg : Str → Option Value
  mb : Str → Option Value
  tb : Tabs
  fn : Addr → Option FunInfo

noncomputable abbrev tupOf (vs : List Value) (n : Nat) : Obj := { cls := .type "tuple", data := .seq vs.toArray n }
noncomputable abbrev Ids := List (Addr × Addr)
noncomputable abbrev Ledger := List (Addr × Obj)

section
variable (G : Gd)
mutual
noncomputable def Rep (φ : Ids) (im : Ledger) : AV → Value → Prop
  | .none, v => v = .none
  | .bool b, v => v = .bool b
  | .int i, v => ∃ t, v = .int i t
  | .str s, v => ∃ t, v = .str s t
  | .tup l, v => ∃ a vs n, v = .ref a ∧ (a, tupOf vs n) ∈ im ∧ RepL φ im l vs
  | .lst l, v => ∃ a vs n, v = .ref a ∧ (a, listOf vs.toArray n) ∈ im ∧ RepL φ im l vs
  | .obj i, v => ∃ p, φ[i]? = some p ∧ v = .ref p.1
  | .top u, v => v = u
  | .unk, v => ∃ b, v = .bool b
  | .src l, v => ∃ a vs, v = .ref a ∧ G.hb.IsList a vs.toArray ∧ IntsAre vs l
noncomputable def RepL (φ : Ids) (im : Ledger) : List AV → List Value → Prop
  | [], [] => True
  | a :: as, v :: vs => Rep φ im a v ∧ RepL φ im as vs
  | _, _ => False
end

noncomputable def IsL (o : Obj) : Prop := o.cls = .type "list" ∧ ∃ vs n, o.data = .seq vs n
noncomputable def FrIn (p : Addr × Obj) (fr' : Ledger) : Prop := ∃ sl, (p.1, { p.2 with slots := sl }) ∈ fr' ∧ (IsL p.2 → sl = p.2.slots)
theorem FrIn.self {p : Addr × Obj} {fr : Ledger} (h : p ∈ fr) : FrIn p fr := ⟨p.2.slots, h, fun _ => rfl⟩
theorem FrIn.trans {p : Addr × Obj} {b c : Ledger} (x : FrIn p b) (y : ∀ q ∈ b, q.1 = p.1 → FrIn q c) : FrIn p c := by
  obtain ⟨sl, h, e⟩ := x
  obtain ⟨sl', h', e'⟩ := y _ h rfl
  exact ⟨sl', h', fun hc => (e' hc).trans (e hc)⟩

structure Ext (φ : Ids) (im fr : Ledger) (φ' : Ids) (im' fr' : Ledger) : Prop where
  ids : φ <+: φ'
  im : ∀ p ∈ im, p ∈ im'
  fr : ∀ p ∈ fr, FrIn p fr'
theorem Ext.refl (φ : Ids) (im fr : Ledger) : Ext φ im fr φ im fr := ⟨List.prefix_rfl, fun _ h => h, fun _ h => .self h⟩
theorem Ext.trans {φ im fr φ' im' fr' φ'' im'' fr''} (x : Ext φ im fr φ' im' fr') (y : Ext φ' im' fr' φ'' im'' fr'') : Ext φ im fr φ'' im'' fr'' :=
  ⟨x.ids.trans y.ids, fun p h => y.im p (x.im p h), fun p h => (x.fr p h).trans fun q hq _ => y.fr q hq⟩

theorem prefix_get {α : Type} {l l' : List α} (h : l <+: l') {i : Nat} {a : α} (e : l[i]? = some a) : l'[i]? = some a := by
  obtain ⟨t, rfl⟩ := h
  rw [List.getElem?_append_left (List.getElem?_eq_some_iff.mp e).1]; exact e

mutual
theorem Rep.mono {φ φ' : Ids} {im im' : Ledger} (hφ : φ <+: φ') (hi : ∀ p ∈ im, (p.2.cls = .type "tuple" ∨ p.2.cls = .type "list") → p ∈ im') : ∀ {av : AV} {v : Value}, Rep G φ im av v → Rep G φ' im' av v
  | .none, _, h => by unfold Rep at *; exact h
  | .bool _, _, h => by unfold Rep at *; exact h
  | .int _, _, h => by unfold Rep at *; exact h
  | .str _, _, h => by unfold Rep at *; exact h
  | .tup l, _, h => by
    unfold Rep at *
    obtain ⟨a, vs, n, e, hm, hl⟩ := h
    exact ⟨a, vs, n, e, hi _ hm (.inl rfl), RepL.mono hφ hi hl⟩
  | .lst l, _, h => by
    unfold Rep at *
    obtain ⟨a, vs, n, e, hm, hl⟩ := h
    exact ⟨a, vs, n, e, hi _ hm (.inr rfl), RepL.mono hφ hi hl⟩
  | .obj i, _, h => by
    unfold Rep at *
    obtain ⟨p, e, hv⟩ := h
    exact ⟨p, prefix_get hφ e, hv⟩
  | .top _, _, h => by unfold Rep at *; exact h
  | .unk, _, h => by unfold Rep at *; exact h
  | .src _, _, h => by unfold Rep at *; exact h
theorem RepL.mono {φ φ' : Ids} {im im' : Ledger} (hφ : φ <+: φ') (hi : ∀ p ∈ im, (p.2.cls = .type "tuple" ∨ p.2.cls = .type "list") → p ∈ im') : ∀ {l : List AV} {vs : List Value}, RepL G φ im l vs → RepL G φ' im' l vs
  | [], [], h => by unfold RepL at *; trivial
  | _ :: _, _ :: _, h => by
    unfold RepL at *
    exact ⟨Rep.mono hφ hi h.1, RepL.mono hφ hi h.2⟩
  | [], _ :: _, h => by unfold RepL at h; exact h.elim
  | _ :: _, [], h => by unfold RepL at h; exact h.elim
end
variable {G}
theorem Rep.ext {φ im fr φ' im' fr'} (x : Ext φ im fr φ' im' fr') {av : AV} {v : Value} (h : Rep G φ im av v) : Rep G φ' im' av v := Rep.mono G x.ids (fun p hp _ => x.im p hp) h
theorem RepL.ext {φ im fr φ' im' fr'} (x : Ext φ im fr φ' im' fr') {av : List AV} {v : List Value} (h : RepL G φ im av v) : RepL G φ' im' av v := RepL.mono G x.ids (fun p hp _ => x.im p hp) h

theorem RepL.length {φ im} : ∀ {l : List AV} {vs : List Value}, RepL G φ im l vs → vs.length = l.length
  | [], [], _ => rfl
  | _ :: _, _ :: _, h => by unfold RepL at h; rw [List.length_cons, List.length_cons, RepL.length h.2]
  | [], _ :: _, h => by unfold RepL at h; exact h.elim
  | _ :: _, [], h => by unfold RepL at h; exact h.elim
theorem RepL.get {φ im} : ∀ {l : List AV} {vs : List Value} {i : Nat} {a : AV}, RepL G φ im l vs → l[i]? = some a → ∃ v, vs[i]? = some v ∧ Rep G φ im a v
  | [], _, i, a, _, e => by simp at e
  | _ :: _, [], _, _, h, _ => by unfold RepL at h; exact h.elim
  | b :: l, v :: vs, 0, a, h, e => by
    unfold RepL at h
    simp at e; subst e
    exact ⟨v, rfl, h.1⟩
  | b :: l, v :: vs, i + 1, a, h, e => by
    unfold RepL at h
    exact RepL.get (i := i) h.2 (by simpa using e)
theorem RepL.append {φ im} : ∀ {l l' : List AV} {vs vs' : List Value}, RepL G φ im l vs → RepL G φ im l' vs' → RepL G φ im (l ++ l') (vs ++ vs')
  | [], _, [], _, _, h' => h'
  | _ :: _, _, _ :: _, _, h, h' => by
    unfold RepL at h
    show RepL G φ im (_ :: (_ ++ _)) (_ :: (_ ++ _))
    unfold RepL
    exact ⟨h.1, RepL.append h.2 h'⟩
  | [], _, _ :: _, _, h, _ => by unfold RepL at h; exact h.elim
  | _ :: _, _, [], _, h, _ => by unfold RepL at h; exact h.elim
theorem RepL.nil {φ im} : RepL G φ im [] [] := by unfold RepL; trivial
theorem RepL.cons {φ im} {a : AV} {v : Value} {l : List AV} {vs : List Value} (h : Rep G φ im a v) (r : RepL G φ im l vs) : RepL G φ im (a :: l) (v :: vs) := by unfold RepL; exact ⟨h, r⟩
theorem RepL.take {φ im} : ∀ {l : List AV} {vs : List Value} (k : Nat), RepL G φ im l vs → RepL G φ im (l.take k) (vs.take k)
  | _, _, 0, _ => by simp [RepL]
  | [], [], k + 1, _ => by simp [RepL]
  | _ :: _, _ :: _, k + 1, h => by
    unfold RepL at h
    simp only [List.take_succ_cons]
    exact RepL.cons h.1 (RepL.take k h.2)
  | [], _ :: _, _, h => by unfold RepL at h; exact h.elim
  | _ :: _, [], _, h => by unfold RepL at h; exact h.elim
theorem RepL.drop {φ im} : ∀ {l : List AV} {vs : List Value} (k : Nat), RepL G φ im l vs → RepL G φ im (l.drop k) (vs.drop k)
  | _, _, 0, h => by simpa using h
  | [], [], k + 1, _ => by simp [RepL]
  | _ :: _, _ :: _, k + 1, h => by
    unfold RepL at h
    simp only [List.drop_succ_cons]
    exact RepL.drop k h.2
  | [], _ :: _, _, h => by unfold RepL at h; exact h.elim
  | _ :: _, [], _, h => by unfold RepL at h; exact h.elim
theorem RepL.set {φ im} {a : AV} {v : Value} : ∀ {l : List AV} {vs : List Value} (k : Nat), RepL G φ im l vs → Rep G φ im a v → RepL G φ im (l.set k a) (vs.set k v)
  | [], [], _, h, _ => by simpa using h
  | _ :: _, _ :: _, 0, h, r => by
    unfold RepL at h
    exact RepL.cons r h.2
  | _ :: _, _ :: _, k + 1, h, r => by
    unfold RepL at h
    exact RepL.cons h.1 (RepL.set k h.2 r)
  | [], _ :: _, _, h, _ => by unfold RepL at h; exact h.elim
  | _ :: _, [], _, h, _ => by unfold RepL at h; exact h.elim
theorem RepL.nth {φ im} : ∀ {l : List AV} {vs : List Value} {i : Nat} {v : Value}, RepL G φ im l vs → vs[i]? = some v → ∃ a, l[i]? = some a ∧ Rep G φ im a v
  | _, [], i, a, _, e => by simp at e
  | [], _ :: _, _, _, h, _ => by unfold RepL at h; exact h.elim
  | b :: l, v :: vs, 0, a, h, e => by
    unfold RepL at h
    simp at e; subst e
    exact ⟨b, rfl, h.1⟩
  | b :: l, v :: vs, i + 1, a, h, e => by
    unfold RepL at h
    exact RepL.nth (i := i) h.2 (by simpa using e)

noncomputable def FldRep (G : Gd) (φ : Ids) (im : Ledger) : List (Str × AV) → List DictEntry → Prop
  | [], [] => True
  | (x, a) :: r, e :: es => (∃ t, e.key = .str x t) ∧ e.hash = PyData.keyHash G.w.params x ∧ Rep G φ im a e.val ∧ FldRep G φ im r es
  | _, _ => False
theorem FldRep.mono {φ φ' : Ids} {im im' : Ledger} (hφ : φ <+: φ') (hi : ∀ p ∈ im, (p.2.cls = .type "tuple" ∨ p.2.cls = .type "list") → p ∈ im') : ∀ {l : List (Str × AV)} {es : List DictEntry}, FldRep G φ im l es → FldRep G φ' im' l es
  | [], [], _ => trivial
  | _ :: _, _ :: _, h => ⟨h.1, h.2.1, Rep.mono G hφ hi h.2.2.1, FldRep.mono hφ hi h.2.2.2⟩
  | [], _ :: _, h => h.elim
  | _ :: _, [], h => h.elim

noncomputable def KvRep (G : Gd) (φ : Ids) (im : Ledger) : List (Str × AV) → List (Str × Value) → Prop
  | [], [] => True
  | (x, a) :: r, (y, v) :: es => y = x ∧ Rep G φ im a v ∧ KvRep G φ im r es
  | _, _ => False
theorem KvRep.mono {φ φ' : Ids} {im im' : Ledger} (hφ : φ <+: φ') (hi : ∀ p ∈ im, (p.2.cls = .type "tuple" ∨ p.2.cls = .type "list") → p ∈ im') : ∀ {l : List (Str × AV)} {es : List (Str × Value)}, KvRep G φ im l es → KvRep G φ' im' l es
  | [], [], _ => trivial
  | _ :: _, _ :: _, h => ⟨h.1, Rep.mono G hφ hi h.2.1, KvRep.mono hφ hi h.2.2⟩
  | [], _ :: _, h => h.elim
  | _ :: _, [], h => h.elim

noncomputable def ObjAt (G : Gd) (φ : Ids) (im mt : Ledger) (p : Addr × Addr) : AObj → Prop
  | .list l => p.2 = p.1 ∧ ∃ vs n, (p.1, listOf vs.toArray n) ∈ mt ∧ RepL G φ im l vs
  | .arr l => p.2 = p.1 ∧ ∃ o vs n, (p.1, o) ∈ mt ∧ o.cls = .type "list" ∧ o.data = .seq vs.toArray n ∧ RepL G φ im l vs
  | .tup l => p.2 = p.1 ∧ ∃ vs n, (p.1, tupOf vs n) ∈ mt ∧ RepL G φ im l vs
  | .dict l => p.2 = p.1 ∧ ∃ o kvs, (p.1, o) ∈ mt ∧ o.IsDictOf (strKind G.prog G.w) kvs ∧ KvRep G φ im l kvs
  | .inst c l => p.1 ≠ p.2 ∧ ∃ es n, (p.1, instObj c p.2) ∈ mt ∧ (p.2, dictOf es n) ∈ mt ∧ FldRep G φ im l es
theorem ObjAt.mono {φ φ' : Ids} {im im' mt mt' : Ledger} {p : Addr × Addr} {o : AObj} (h : ObjAt G φ im mt p o) (hφ : φ <+: φ') (hi : ∀ p ∈ im, (p.2.cls = .type "tuple" ∨ p.2.cls = .type "list") → p ∈ im')
    (hm : ∀ q ∈ mt, (q.1 = p.1 ∨ q.1 = p.2) → q ∈ mt') : ObjAt G φ' im' mt' p o := by
  induction o using AObj.casesOn with
  | list l => obtain ⟨e, vs, n, h1, h2⟩ := h; exact ⟨e, vs, n, hm _ h1 (.inl rfl), RepL.mono G hφ hi h2⟩
  | arr l => obtain ⟨e, o, vs, n, h1, h2, h3, h4⟩ := h; exact ⟨e, o, vs, n, hm _ h1 (.inl rfl), h2, h3, RepL.mono G hφ hi h4⟩
  | tup l => obtain ⟨e, vs, n, h1, h2⟩ := h; exact ⟨e, vs, n, hm _ h1 (.inl rfl), RepL.mono G hφ hi h2⟩
  | dict l => obtain ⟨e, o, kvs, h1, h2, h3⟩ := h; exact ⟨e, o, kvs, hm _ h1 (.inl rfl), h2, KvRep.mono hφ hi h3⟩
  | inst c l => obtain ⟨e, es, n, h1, h2, h3⟩ := h; exact ⟨e, es, n, hm _ h1 (.inl rfl), hm _ h2 (.inr rfl), FldRep.mono hφ hi h3⟩

structure HeapRep (G : Gd) (φ : Ids) (σ : AHeap) (mt im : Ledger) : Prop where
  len : φ.length = σ.length
  obj : ∀ (i : Nat) (o : AObj) (p : Addr × Addr), σ[i]? = some o → φ[i]? = some p → ObjAt G φ im mt p o
  disj : ∀ (i j : Nat) (p q : Addr × Addr), φ[i]? = some p → φ[j]? = some q → i ≠ j → p.1 ≠ q.1 ∧ p.1 ≠ q.2 ∧ p.2 ≠ q.1 ∧ p.2 ≠ q.2

end

noncomputable def NoFr (o : Obj) : Prop := (∀ es n, o.data ≠ .dict es n) ∧ ∀ v, o.data ≠ .cell v

structure Act where
  A : Around
  env : Env
  fenv : Env
  outer : List Env

structure SS (G : Gd) (C : Act) (ρ : LEnv) (σ : AHeap) (φ : Ids) (mt im fr : Ledger) (m : Str → Option Value) (h : Heap) : Prop where
  F : Fr G.hb C.env.locals h m
  N : News G.hb C.env.locals h (mt ++ (im ++ fr))
  nd : (mt.map (·.1)).Nodup
  sep : ∀ p ∈ mt, ∀ q ∈ im ++ fr, p.1 ≠ q.1
  sepf : ∀ p ∈ im, ∀ q ∈ fr, p.1 ≠ q.1
  imk : ∀ q ∈ im, NoFr q.2
  frd : ∀ q ∈ fr, (∃ es n, q.2.data = .dict es n) ∨ (∃ v, q.2.data = .cell v) ∨ IsL q.2
  hp : HeapRep G φ σ mt im
  kinds : ∀ x k, ρ.names.lookup x = some k → C.env.kindOf x = some (if k = .free then .cell else k)
  loc : ∀ x av, ρ.locals x = some av → ρ.names.lookup x = some .local → ∃ v, m x = some v ∧ Rep G φ im av v
  cell : ∀ x, (ρ.names.lookup x = some .cell ∨ ρ.names.lookup x = some .free) → ∃ c o v₀, C.env.cells.lookup x = some c ∧ (c, o) ∈ fr ∧ o.data = .cell v₀ ∧ ∀ av, ρ.cells x = some av → ∃ v, v₀ = some v ∧ Rep G φ im av v
  apart : ∀ x y c, C.env.cells.lookup x = some c → C.env.cells.lookup y = some c → x = y
  frm : ∀ e ∈ C.fenv :: C.outer, e.scope.kind ≠ .module ∧ ∃ b, e.frame = some b ∧ (b = C.env.locals ∨ ∃ o es n, (b, o) ∈ fr ∧ o.data = .dict es n)

structure Act.Ok (C : Act) (n : Nat) : Prop where
  frames : C.A.frames = some (C.fenv :: C.outer)
  hd : C.A.handled = none
  depth : C.A.depth + 4 * n + 4 < recursionLimit
  units : C.A.units + 12 * n + 80 < cLine
  kind : C.env.scope.kind = .function
  fkind : C.fenv.scope.kind = .function
  glo : C.env.globals = mainGlobals
  bui : C.env.builtins = builtinsNs
  frm : C.env.frame = C.fenv.frame

noncomputable def lowerFault : Value := .ref 52
structure Fly (G : Gd) (C : Act) (σ : AHeap) (φ : Ids) (mt im fr : Ledger) (m : Str → Option Value) (e : Addr) (h : Heap) : Prop where
  ns : h.Ns C.env.locals m
  abv : G.hb.objs.size ≤ C.env.locals
  out : ∃ (B : Heap) (a0 fl : Value), G.hb.StaysIn B ∧ (∀ q ∈ mt ++ im, B.get? q.1 = some q.2) ∧ (∀ q ∈ fr, IsL q.2 → B.get? q.1 = some q.2) ∧ B.StaysIn h ∧ B.get? e = none ∧ h.FunFrames B (C.fenv :: C.outer) ∧ h.TracedAtW B e lowerFault a0 fl
  frs : ∀ q ∈ fr, h.get? q.1 = some q.2 ∧ G.hb.get? q.1 = none
  new : ∀ q ∈ mt ++ im, G.hb.get? q.1 = none
  own : ∀ q ∈ mt ++ (im ++ fr), q.1 ≠ C.env.locals
  nd : (mt.map (·.1)).Nodup
  sep : ∀ p ∈ mt, ∀ q ∈ im ++ fr, p.1 ≠ q.1
  sepf : ∀ p ∈ im, ∀ q ∈ fr, p.1 ≠ q.1
  imk : ∀ q ∈ im, NoFr q.2
  frd : ∀ q ∈ fr, (∃ es n, q.2.data = .dict es n) ∨ (∃ v, q.2.data = .cell v) ∨ IsL q.2
  hp : HeapRep G φ σ mt im

section
variable (G : Gd) (C : Act) (ρ : LEnv) (m : Str → Option Value)
noncomputable abbrev VRel (α β : Type) := Ids → Ledger → α → β → Prop
noncomputable def Sp {α β : Type} (R : VRel α β) (φ : Ids) (im fr : Ledger) (Q : β → Shared → Prop) (E : Value → Shared → Prop) (s : Shared) : Res α → Prop
  | .ok a σ' => ∀ φ' mt' im' fr' h' tk' b, Ext φ im fr φ' im' fr' → SS G C ρ σ' φ' mt' im' fr' m h' → R φ' im' a b → Q b { s with heap := h', toks := tk' }
  | .exn σ' => ∀ φ' mt' im' fr' h' tk' e, Ext φ im fr φ' im' fr' → Fly G C σ' φ' mt' im' fr' m e h' → E (.ref e) { s with heap := h', toks := tk' }
  | .fail => False
noncomputable abbrev Pre := Ids → Ledger → Prop
noncomputable def Stable (P : Pre) : Prop := ∀ φ im fr φ' im' fr', Ext φ im fr φ' im' fr' → P φ im → P φ' im'
noncomputable def StableR {α β : Type} (R : VRel α β) : Prop := ∀ φ im fr φ' im' fr' a b, Ext φ im fr φ' im' fr' → R φ im a b → R φ' im' a b
noncomputable def Sm {α β : Type} (P : Pre) (R : VRel α β) (t : Sem β) (ma : M α) : Prop :=
  ∀ σ φ mt im fr s Q E, P φ im → SS G C ρ σ φ mt im fr m s.heap → Sp G C ρ m R φ im fr Q E s (ma σ) → wpAny (model G.prog G.w) C.A t Q E s
end
theorem Sp.step {G : Gd} {C : Act} {ρ : LEnv} {m : Str → Option Value} {α β : Type} {R : VRel α β} {φ im fr φ' im' fr'} {Q : β → Shared → Prop} {E : Value → Shared → Prop} {s : Shared} {r : Res α} (h : Sp G C ρ m R φ im fr Q E s r) (x : Ext φ im fr φ' im' fr') (h' : Heap) (tk : Nat) :
    Sp G C ρ m R φ' im' fr' Q E { s with heap := h', toks := tk } r := by
  induction r using Res.casesOn with
  | ok a σ => exact fun φ'' mt'' im'' fr'' h'' tk'' b y st r => h φ'' mt'' im'' fr'' h'' tk'' b (x.trans y) st r
  | exn σ => exact fun φ'' mt'' im'' fr'' h'' tk'' e y st => h φ'' mt'' im'' fr'' h'' tk'' e (x.trans y) st
  | fail => exact h

theorem Sm.bind {G : Gd} {C : Act} {ρ : LEnv} {m : Str → Option Value} {α β α' β' : Type} {P : Pre} {R : VRel α β} {R' : VRel α' β'} {t : Sem β} {k : β → Sem β'} {ma : M α} {f : α → M α'} (hP : Stable P)
    (h1 : Sm G C ρ m P R t ma) (h2 : ∀ a b, Sm G C ρ m (fun φ im => P φ im ∧ R φ im a b) R' (k b) (f a)) : Sm G C ρ m P R' (t >>= k) (ma >>= f) := by
  intro σ φ mt im fr s Q E hp st hs
  refine wpAny_bind (h1 σ φ mt im fr s _ E hp st ?_)
  change Sp G C ρ m R' φ im fr Q E s ((ma σ).bind f) at hs
  induction e : ma σ using Res.casesOn with
  | ok a σ' =>
    rw [e] at hs
    intro φ' mt' im' fr' h' tk' b x st' r
    exact h2 a b σ' φ' mt' im' fr' { s with heap := h', toks := tk' } Q E ⟨hP _ _ _ _ _ _ x hp, r⟩ st' (Sp.step hs x h' tk')
  | exn σ' => rw [e] at hs; exact hs
  | fail => rw [e] at hs; exact hs
theorem Sm.pure {G : Gd} {C : Act} {ρ : LEnv} {m : Str → Option Value} {α β : Type} {P : Pre} {R : VRel α β} {a : α} {b : β} (h : ∀ φ im, P φ im → R φ im a b) : Sm G C ρ m P R (Pure.pure b) (Pure.pure a : M α) := by
  intro σ φ mt im fr s Q E hp st hs
  exact wpAny_pure (hs φ mt im fr s.heap s.toks b (Ext.refl ..) st (h _ _ hp))
theorem Sm.holding {G : Gd} {C : Act} {ρ : LEnv} {m : Str → Option Value} {α β : Type} {P : Pre} {R : VRel α β} {t : Sem β} {ma : M α} {vs : List Value} (h : Sm G C ρ m P R t ma) : Sm G C ρ m P R (holding vs t) ma :=
  fun σ φ mt im fr s Q E hp st hs => wpAny_holding (h σ φ mt im fr s Q E hp st hs)
theorem Sm.at {G : Gd} {C : Act} {ρ : LEnv} {m : Str → Option Value} {α β : Type} {P : Pre} {R : VRel α β} {t : Sem β} {ma : M α} {pos : Pos} (h : Sm G C ρ m P R t ma) : Sm G C ρ m P R (standAt pos >>= fun _ => t) ma :=
  fun σ φ mt im fr s Q E hp st hs => wpAny_bind (wpAny_standAt (h σ φ mt im fr s Q E hp st hs))
theorem Sm.mono {G : Gd} {C : Act} {ρ : LEnv} {m : Str → Option Value} {α β : Type} {P P' : Pre} {R : VRel α β} {t : Sem β} {ma : M α} (h : Sm G C ρ m P R t ma) (hP : ∀ φ im, P' φ im → P φ im) : Sm G C ρ m P' R t ma :=
  fun σ φ mt im fr s Q E hp st hs => h σ φ mt im fr s Q E (hP _ _ hp) st hs
theorem Sm.fail {G : Gd} {C : Act} {ρ : LEnv} {m : Str → Option Value} {α β : Type} {P : Pre} {R : VRel α β} {t : Sem β} : Sm G C ρ m P R t (failM : M α) := fun _ _ _ _ _ _ _ _ _ _ hs => hs.elim
theorem Sm.of {G : Gd} {C : Act} {ρ : LEnv} {m : Str → Option Value} {α β : Type} {P : Pre} {R : VRel α β} {t : Sem β} {a : α} (h : ∀ σ φ mt im fr s (Q : β → Shared → Prop) E, P φ im → SS G C ρ σ φ mt im fr m s.heap →
    (∀ φ' mt' im' fr' h' tk' b, Ext φ im fr φ' im' fr' → SS G C ρ σ φ' mt' im' fr' m h' → R φ' im' a b → Q b { s with heap := h', toks := tk' }) → wpAny (model G.prog G.w) C.A t Q E s) : Sm G C ρ m P R t (Pure.pure a : M α) :=
  fun σ φ mt im fr s Q E hp st hs => h σ φ mt im fr s Q E hp st hs

end Mine
end
section
namespace Mine
open PySem PySem.W PySem.Calls PyProof.Rows

structure FieldOk (K : Frag) (c : Addr) (x : Str) : Prop where
  plain : plainGet K c x = true
  dict : hasDictIn K c = true
  get : ∃ attr, findIn K (.ref c) x = some attr ∧ noGet K attr = true
  setattr : findIn K (.ref c) "__setattr__" = some (some (.builtin "object.__setattr__"))
  over : plainOver K c = true
  taker : takerIn K c x = some none
structure MethOk (K : Frag) (c : Addr) (x : Str) (f : Addr) : Prop where
  plain : plainGet K c x = true
  find : findIn K (.ref c) x = some (some (.ref f))
  fn : isFn K (.ref f) = true
  keep : keepIn K (.ref f) = true

structure Gd.Ok (G : Gd) : Prop where
  mods : ∃ o, G.hb.get? sysModules = some o
  X : G.K.In G.hb
  Tp : TopRead G.pv G.loose G.mg G.mb G.hb
  glob : ∀ x v, G.tb.global x = some v → ∃ u, v = .top u ∧ (nsIn G.K mainGlobals x = some (some u) ∨ (nsIn G.K mainGlobals x = some none ∧ bootBuiltins x = some u ∧ x ≠ "__name__"))
  field : ∀ c x, G.tb.fieldOk c x = true → FieldOk G.K c x
  meth : ∀ c x f, G.tb.methAt c x = some f → MethOk G.K c x f
  callee : ∀ a, G.tb.isCallee a = true → keepIn G.K (.ref a) = true

section states
variable {G : Gd} {C : Act} {ρ : LEnv} {σ : AHeap} {φ : Ids} {mt im fr : Ledger} {m : Str → Option Value} {h h' : Heap}

theorem SS.same (st : SS G C ρ σ φ mt im fr m h) (F : Fr G.hb C.env.locals h' m) (N : News G.hb C.env.locals h' (mt ++ (im ++ fr))) : SS G C ρ σ φ mt im fr m h' := { st with F := F, N := N }
theorem SS.keeps (st : SS G C ρ σ φ mt im fr m h) (k : ∀ b o, h.get? b = some o → h'.get? b = some o) : SS G C ρ σ φ mt im fr m h' := st.same (st.F.keeps k) (st.N.keeps k)
theorem SS.lt (st : SS G C ρ σ φ mt im fr m h) {p : Addr × Obj} (hp : p ∈ mt ++ (im ++ fr)) : p.1 < h.objs.size := Heap.lt_size (st.N p hp).1
theorem SS.imIn (st : SS G C ρ σ φ mt im fr m h) {p : Addr × Obj} (hp : p ∈ im) : h.get? p.1 = some p.2 := (st.N p (List.mem_append.mpr (.inr (List.mem_append.mpr (.inl hp))))).1
theorem SS.frIn (st : SS G C ρ σ φ mt im fr m h) {p : Addr × Obj} (hp : p ∈ fr) : h.get? p.1 = some p.2 := (st.N p (List.mem_append.mpr (.inr (List.mem_append.mpr (.inr hp))))).1
theorem SS.mtIn (st : SS G C ρ σ φ mt im fr m h) {p : Addr × Obj} (hp : p ∈ mt) : h.get? p.1 = some p.2 := (st.N p (List.mem_append.mpr (.inl hp))).1

theorem HeapRep.mono {φ : Ids} {σ : AHeap} {mt im im' : Ledger} (hp : HeapRep G φ σ mt im) (hi : ∀ p ∈ im, (p.2.cls = .type "tuple" ∨ p.2.cls = .type "list") → p ∈ im') : HeapRep G φ σ mt im' :=
  ⟨hp.len, fun i o p e1 e2 => (hp.obj i o p e1 e2).mono List.prefix_rfl hi fun _ h _ => h, hp.disj⟩

theorem SS.addIm' (st : SS G C ρ σ φ mt im fr m h) {o : Obj} (F : Fr G.hb C.env.locals h' m) {a : Addr} (N : News G.hb C.env.locals h' ((a, o) :: (mt ++ (im ++ fr)))) (lt : ∀ p ∈ mt ++ (im ++ fr), p.1 ≠ a) (hd : NoFr o) :
    SS G C ρ σ φ mt ((a, o) :: im) fr m h' := by
  have hi : ∀ p ∈ im, (p.2.cls = .type "tuple" ∨ p.2.cls = .type "list") → p ∈ (a, o) :: im := fun p hp _ => .tail _ hp
  refine ⟨F, fun p hp => N p ?_, st.nd, fun p hp q hq => ?_, fun p hp q hq => ?_, fun q hq => ?_, st.frd, st.hp.mono hi, st.kinds, ?_, ?_, st.apart, ?_⟩
  · rcases List.mem_append.mp hp with hp | hp
    · exact .tail _ (List.mem_append.mpr (.inl hp))
    · rcases List.mem_append.mp hp with hp | hp
      · rcases List.mem_cons.mp hp with rfl | hp
        · exact .head _
        · exact .tail _ (List.mem_append.mpr (.inr (List.mem_append.mpr (.inl hp))))
      · exact .tail _ (List.mem_append.mpr (.inr (List.mem_append.mpr (.inr hp))))
  · rcases List.mem_append.mp hq with hq | hq
    · rcases List.mem_cons.mp hq with rfl | hq
      · exact lt p (List.mem_append.mpr (.inl hp))
      · exact st.sep p hp q (List.mem_append.mpr (.inl hq))
    · exact st.sep p hp q (List.mem_append.mpr (.inr hq))
  · rcases List.mem_cons.mp hp with rfl | hp
    · exact (lt q (List.mem_append.mpr (.inr (List.mem_append.mpr (.inr hq))))).symm
    · exact st.sepf p hp q hq
  · rcases List.mem_cons.mp hq with rfl | hq
    · exact hd
    · exact st.imk q hq
  · intro x av e k
    obtain ⟨v, e1, e2⟩ := st.loc x av e k
    exact ⟨v, e1, Rep.mono G List.prefix_rfl hi e2⟩
  · intro x k
    obtain ⟨c, o', v₀, e1, e2, e3, e4⟩ := st.cell x k
    refine ⟨c, o', v₀, e1, e2, e3, fun av e => ?_⟩
    obtain ⟨v, e5, e6⟩ := e4 av e
    exact ⟨v, e5, Rep.mono G List.prefix_rfl hi e6⟩
  · exact st.frm
theorem SS.addIm (st : SS G C ρ σ φ mt im fr m h) {o : Obj} (F : Fr G.hb C.env.locals h' m) {a : Addr} (N : News G.hb C.env.locals h' ((a, o) :: (mt ++ (im ++ fr)))) (ha : h.objs.size ≤ a) (hd : NoFr o) :
    SS G C ρ σ φ mt ((a, o) :: im) fr m h' :=
  st.addIm' F N (fun p hp e => by have := st.lt hp; rw [e] at this; exact absurd this (Nat.not_lt.mpr ha)) hd
theorem Ext.addIm {φ : Ids} {im fr : Ledger} (p : Addr × Obj) : Ext φ im fr φ (p :: im) fr := ⟨List.prefix_rfl, fun _ h => .tail _ h, fun _ h => .self h⟩
end states

section rules
variable {G : Gd} {C : Act} {ρ : LEnv} {m : Str → Option Value} {P : Pre} {n : Nat}

theorem stableT : Stable (fun _ _ => True) := fun _ _ _ _ _ _ _ _ => trivial
theorem Stable.and {P P' : Pre} (h : Stable P) (h' : Stable P') : Stable (fun φ im => P φ im ∧ P' φ im) := fun _ _ _ _ _ _ x p => ⟨h _ _ _ _ _ _ x p.1, h' _ _ _ _ _ _ x p.2⟩
theorem stableRep (a : AV) (v : Value) : Stable (fun φ im => Rep G φ im a v) := fun _ _ _ _ _ _ x h => h.ext x
theorem stableRepL (a : List AV) (v : List Value) : Stable (fun φ im => RepL G φ im a v) := fun _ _ _ _ _ _ x h => h.ext x

theorem Sm.toks {α β : Type} {R : VRel α β} {t : Sem β} {a : α} (h : ∀ σ φ mt im fr s (Q : β → Shared → Prop) E, P φ im → SS G C ρ σ φ mt im fr m s.heap →
    (∀ tk b, R φ im a b → Q b { s with toks := tk }) → wpAny (model G.prog G.w) C.A t Q E s) : Sm G C ρ m P R t (Pure.pure a : M α) :=
  fun σ φ mt im fr s Q E hp st hs => h σ φ mt im fr s Q E hp st fun tk b r => hs φ mt im fr s.heap tk b (Ext.refl ..) st r

theorem sm_const (c : Const) (k : Nat) (pos : Pos) : Sm G C ρ m P (Rep G) (eval (.Constant c k pos) C.env) (liftO (constAV c)) := by
  cases c with
  | none => exact Sm.toks fun σ φ mt im fr s Q E _ _ h => wpAny_Constant_none (h s.toks .none (by unfold Rep; rfl))
  | bool b => exact Sm.toks fun σ φ mt im fr s Q E _ _ h => wpAny_Constant_bool (h s.toks (.bool b) (by unfold Rep; rfl))
  | int i => exact Sm.toks fun σ φ mt im fr s Q E _ _ h => wpAny_Constant_int (h (s.toks + 1) (.int i s.toks) (by unfold Rep; exact ⟨_, rfl⟩))
  | str x => exact Sm.toks fun σ φ mt im fr s Q E _ _ h => wpAny_Constant_str (h (s.toks + 1) (.str x s.toks) (by unfold Rep; exact ⟨_, rfl⟩))
  | float _ => exact Sm.fail
  | complex _ _ => exact Sm.fail
  | bytes _ => exact Sm.fail
  | ellipsis => exact Sm.fail

theorem sm_load (ok : G.Ok) (hC : C.Ok n) (x : Str) : Sm G C ρ m P (Rep G) (loadName C.env x) (liftO (ρ.get G.tb x)) := by
  intro σ φ mt im fr s Q E hp st hs
  unfold LEnv.get at hs
  induction hk : ρ.names.lookup x using Option.casesOn with
  | none => rw [hk] at hs; exact hs.elim
  | some k =>
    rw [hk] at hs
    have hkind := st.kinds x k hk
    cases k with
    | «local» =>
      dsimp only at hs
      induction hl : ρ.locals x using Option.casesOn with
      | none => rw [hl] at hs; exact hs.elim
      | some av =>
        rw [hl] at hs
        obtain ⟨v, e1, e2⟩ := st.loc x av hl hk
        exact wpAny_loadName_local hC.kind hkind st.F.ns e1 (hs φ mt im fr s.heap s.toks v (Ext.refl ..) st e2)
    | cell =>
      dsimp only at hs
      induction hl : ρ.cells x using Option.casesOn with
      | none => rw [hl] at hs; exact hs.elim
      | some av =>
        rw [hl] at hs
        obtain ⟨c, o, v₀, e1, e2, e3, e4⟩ := st.cell x (.inl hk)
        obtain ⟨v, rfl, e6⟩ := e4 av hl
        exact wpAny_loadName_cell hC.kind hkind e1 ⟨o, st.frIn e2, e3⟩ (hs φ mt im fr s.heap s.toks v (Ext.refl ..) st e6)
    | free =>
      dsimp only at hs
      induction hl : ρ.cells x using Option.casesOn with
      | none => rw [hl] at hs; exact hs.elim
      | some av =>
        rw [hl] at hs
        obtain ⟨c, o, v₀, e1, e2, e3, e4⟩ := st.cell x (.inr hk)
        obtain ⟨v, rfl, e6⟩ := e4 av hl
        exact wpAny_loadName_cell hC.kind hkind e1 ⟨o, st.frIn e2, e3⟩ (hs φ mt im fr s.heap s.toks v (Ext.refl ..) st e6)
    | globalExplicit => exact hs.elim
    | globalImplicit =>
      dsimp only at hs
      induction hl : G.tb.global x using Option.casesOn with
      | none => rw [hl] at hs; exact hs.elim
      | some av =>
        rw [hl] at hs
        obtain ⟨u, rfl, e⟩ := ok.glob x av hl
        have fin : Q u s := hs φ mt im fr s.heap s.toks u (Ext.refl ..) st (by unfold Rep; rfl)
        have hg : s.heap.Ns C.env.globals G.mg := by rw [hC.glo]; exact ok.Tp.g.keeps st.F.keep
        have hb : s.heap.Ns C.env.builtins G.mb := by rw [hC.bui]; exact ok.Tp.b.keeps st.F.keep
        have go : wpAny (model G.prog G.w) C.A (loadGlobal C.env x) Q E s := by
          rcases e with e | ⟨e, e1, e2⟩
          · exact loadGlobal_global hg (mg_of ok.X ok.Tp.g e) fin
          · exact loadGlobal_builtin hg (mg_none_of ok.X ok.Tp.g e) hb ((ok.Tp.builtins x e2).trans e1) fin
        unfold loadName
        have hk2 : C.env.kindOf x = some .globalImplicit := hkind
        simp only [Env.blockKind, hC.kind, hk2, ScopeKind.isAnnotationScope, Bool.false_and, Bool.false_eq_true, if_false]
        exact go

theorem sm_name (ok : G.Ok) (hC : C.Ok n) (x : Str) (pos : Pos) (hd : (x == ("__debug__" : Str)) = false) : Sm G C ρ m P (Rep G) (eval (.Name x pos) C.env) (liftO (ρ.get G.tb x)) :=
  fun σ φ mt im fr s Q E hp st hs => wpAny_Name (sm_load ok hC x σ φ mt im fr s Q E hp st hs) hd

noncomputable def SeqAt (G : Gd) (h : Heap) (v : Value) (vs : List Value) : Prop := ∃ a, v = .ref a ∧ (h.IsList a vs.toArray ∨ IsTup h a vs.toArray)

theorem newTuple_sm {vs : List Value} {l : List AV} (hl : ∀ φ im, P φ im → RepL G φ im l vs) (hz : l.length ≤ sizeCap) : Sm G C ρ m P (Rep G) (newTuple vs) (pure (.tup l)) := by
  refine Sm.of fun σ φ mt im fr s Q E hp st hq => ?_
  have r := hl _ _ hp
  refine newTuple_N st.F st.N (fun h' F' N' => ?_) (by rw [r.length, sizeLine_eq]; unfold sizeCap at hz; omega)
  refine hq φ mt _ fr h' s.toks _ (Ext.addIm _) (st.addIm F' N' (Nat.le_refl _) ⟨fun es n e => (by cases e), fun v e => (by cases e)⟩) ?_
  unfold Rep
  exact ⟨_, vs, 0, rfl, .head _, r.ext (Ext.addIm (fr := fr) _)⟩
theorem newList_sm {vs : List Value} {l : List AV} (hl : ∀ φ im, P φ im → RepL G φ im l vs) (hz : l.length ≤ sizeCap) : Sm G C ρ m P (Rep G) (newList vs) (pure (.lst l)) := by
  refine Sm.of fun σ φ mt im fr s Q E hp st hq => ?_
  have r := hl _ _ hp
  refine newList_N st.F st.N (fun h' F' N' => ?_) (by rw [r.length, sizeLine_eq]; unfold sizeCap at hz; omega)
  refine hq φ mt _ fr h' s.toks _ (Ext.addIm _) (st.addIm F' N' (Nat.le_refl _) ⟨fun es n e => (by cases e), fun v e => (by cases e)⟩) ?_
  unfold Rep
  exact ⟨_, vs, 0, rfl, .head _, r.ext (Ext.addIm (fr := fr) _)⟩

noncomputable def ESim (G : Gd) (n : Nat) (f : Expr → LEnv → M AV) : Prop := ∀ C ρ m e, Act.Ok C n → Sm G C ρ m (fun _ _ => True) (Rep G) (eval e C.env) (f e ρ)
noncomputable def TSim (G : Gd) (n : Nat) (f : Expr → LEnv → M Bool) : Prop := ∀ C ρ m e, Act.Ok C n → Sm G C ρ m (fun _ _ => True) (fun _ _ a b => b = a) (isTrue e C.env (eval e C.env)) (f e ρ)

theorem starEach_ok {e : Expr} {rest : List Expr} {env : Env} (h : okE e = true) : starEach (e :: rest) env = (false, eval e env) :: starEach rest env := by
  cases e <;> first | rfl | exact (no_ft h).elim

theorem sm_items {f : Expr → LEnv → M AV} (hf : ESim G n f) (hC : C.Ok n) (pos : Pos) : ∀ (es : List Expr) (P : Pre), Stable P → Sm G C ρ m P (RepL G) (spliced (backTo pos (starEach es C.env))) (evList f ρ es)
  | [], P, _ => Sm.pure fun _ _ _ => RepL.nil
  | e :: r, P, hP => by
    unfold evList
    split
    · rename_i he
      rw [starEach_ok he]
      show Sm G C ρ m P (RepL G) (do
        let v ← eval e C.env
        let here ← (pure [v] : Sem (List Value))
        return here ++ (← holding here (spliced (backTo pos (starEach r C.env))))) _
      refine Sm.bind hP ((hf C ρ m e hC).mono fun _ _ _ => trivial) fun a v => ?_
      show Sm G C ρ m _ (RepL G) (holding [v] (spliced (backTo pos (starEach r C.env))) >>= fun vs => pure ([v] ++ vs)) _
      refine Sm.bind (hP.and (stableRep a v)) (Sm.holding (sm_items hf hC pos r _ (hP.and (stableRep a v)))) fun l vs => ?_
      exact Sm.pure fun φ im h => RepL.cons h.1.2 h.2
    · exact Sm.fail

theorem Sm.cond {α β : Type} {R : VRel α β} {t : Sem β} {ma : M α} {b : Prop} [Decidable b] (h : b → Sm G C ρ m P R t ma) : Sm G C ρ m P R t (if b then ma else failM) := by
  split
  · rename_i hb; exact h hb
  · exact Sm.fail

theorem sm_Tuple {f : Expr → LEnv → M AV} (hf : ESim G n f) (hC : C.Ok n) (hP : Stable P) (es : List Expr) (k : Nat) (pos : Pos) :
    Sm G C ρ m P (Rep G) (eval (.Tuple es k pos) C.env) (do
      let vs ← evList f ρ es
      if vs.length ≤ sizeCap then pure (.tup vs) else failM) := by
  rw [arm_eval_Tuple]
  refine Sm.at (Sm.bind hP (sm_items hf hC pos es P hP) fun l vs => Sm.cond fun hz => newTuple_sm (fun φ im h => h.2) hz)

theorem sm_truthy {a : AV} {v : Value} (h : ∀ φ im, P φ im → Rep G φ im a v) : Sm G C ρ m P (fun _ _ a b => b = a) (truthy v) (truth a) := by
  induction a using AV.casesOn with
  | bool b =>
    refine Sm.toks fun σ φ mt im fr s Q E hp _ hq => ?_
    have r := h _ _ hp
    unfold Rep at r
    subst r
    exact wpAny_truthy_bool (hq s.toks b rfl)
  | none => exact Sm.fail
  | int _ => exact Sm.fail
  | str _ => exact Sm.fail
  | tup _ => exact Sm.fail
  | lst _ => exact Sm.fail
  | obj _ => exact Sm.fail
  | top _ => exact Sm.fail
  | unk => exact Sm.fail
  | src _ => exact Sm.fail

theorem Sm.ite {α β : Type} {R : VRel α β} {t t' : Sem β} {ma ma' : M α} {b b' : Bool} (e : b' = b) (h : b = true → Sm G C ρ m P R t ma) (h' : b = false → Sm G C ρ m P R t' ma') :
    Sm G C ρ m P R (if b' = true then t else t') (if b = true then ma else ma') := by
  subst e
  induction b' using Bool.casesOn with
  | true => simpa using h rfl
  | false => simpa using h' rfl

theorem Sm.exact {α β : Type} {R : VRel α β} {t : Sem β} {ma : M α} {X : Prop} (h : ∀ φ im, P φ im → X) (k : X → Sm G C ρ m P R t ma) : Sm G C ρ m P R t ma :=
  fun σ φ mt im fr s Q E hp st hs => k (h _ _ hp) σ φ mt im fr s Q E hp st hs
end rules
end Mine
end
section
namespace Mine
open PySem PySem.W PySem.Calls PyProof.Rows

section reading
variable {G : Gd} {C : Act} {ρ : LEnv} {σ : AHeap} {φ : Ids} {mt im fr : Ledger} {m : Str → Option Value} {h : Heap}

mutual
theorem reads_of (st : SS G C ρ σ φ mt im fr m h) : ∀ {a : AV} {v : Value} {p : PyData}, toPD a = some p → Rep G φ im a v → ∃ as, Reads h v p as
  | .none, v, p, e, r => by simp only [toPD, Option.some.injEq] at e; unfold Rep at r; subst e r; exact ⟨_, .none⟩
  | .bool b, v, p, e, r => by simp only [toPD, Option.some.injEq] at e; unfold Rep at r; subst e r; exact ⟨_, .bool b⟩
  | .int i, v, p, e, r => by simp only [toPD, Option.some.injEq] at e; unfold Rep at r; obtain ⟨t, rfl⟩ := r; subst e; exact ⟨_, .int i t⟩
  | .str i, v, p, e, r => by simp only [toPD, Option.some.injEq] at e; unfold Rep at r; obtain ⟨t, rfl⟩ := r; subst e; exact ⟨_, .str i t⟩
  | .tup l, v, p, e, r => by
    simp only [toPD, Option.map_eq_some_iff] at e
    obtain ⟨ps, e, rfl⟩ := e
    unfold Rep at r
    obtain ⟨a, vs, n, rfl, hm, r⟩ := r
    obtain ⟨as, q⟩ := readsAll_of st e r
    exact ⟨_, .tuple (st.imIn hm) rfl rfl (by simpa using q)⟩
  | .lst l, v, p, e, r => by
    simp only [toPD, Option.map_eq_some_iff] at e
    obtain ⟨ps, e, rfl⟩ := e
    unfold Rep at r
    obtain ⟨a, vs, n, rfl, hm, r⟩ := r
    obtain ⟨as, q⟩ := readsAll_of st e r
    exact ⟨_, .list (st.imIn hm) rfl rfl (by simpa [W.listOf] using q)⟩
  | .obj _, _, _, e, _ => by simp [toPD] at e
  | .top _, _, _, e, _ => by simp [toPD] at e
  | .unk, _, _, e, _ => by simp [toPD] at e
  | .src _, _, _, e, _ => by simp [toPD] at e
theorem readsAll_of (st : SS G C ρ σ φ mt im fr m h) : ∀ {l : List AV} {vs : List Value} {ps : List PyData}, toPDs l = some ps → RepL G φ im l vs → ∃ as, ReadsAll h vs ps as
  | [], [], ps, e, _ => by simp only [toPDs, Option.some.injEq] at e; subst e; exact ⟨_, .nil⟩
  | a :: l, v :: vs, ps, e, r => by
    unfold RepL at r
    simp only [toPDs] at e
    induction e1 : toPD a using Option.casesOn with
    | none => rw [e1] at e; simp at e
    | some p =>
      induction e2 : toPDs l using Option.casesOn with
      | none => rw [e1, e2] at e; simp at e
      | some qs =>
        rw [e1, e2] at e
        simp only [Option.some.injEq] at e
        subst e
        obtain ⟨_, q⟩ := reads_of st e1 r.1
        obtain ⟨_, qs⟩ := readsAll_of st e2 r.2
        exact ⟨_, .cons q qs⟩
  | [], _ :: _, _, _, r => by unfold RepL at r; exact r.elim
  | _ :: _, [], _, _, r => by unfold RepL at r; exact r.elim
end

structure SeqV (G : Gd) (φ : Ids) (im : Ledger) (h : Heap) (v : Value) (l : List AV) (isT : Bool) : Prop where
  out : ∃ a vs, v = .ref a ∧ RepL G φ im l vs ∧ l.length ≤ sizeCap ∧ ((isT = false ∧ h.IsList a vs.toArray) ∨ (isT = true ∧ IsTup h a vs.toArray))
theorem notTup {a : AV} (h : isList a = true) (h' : isTupAV a = true) : False := by cases a <;> simp_all [isList, isTupAV]

theorem ints_rep : ∀ {vs : List Value} {l : List Int}, IntsAre vs l → RepL G φ im (l.map AV.int) vs
  | _, _, .nil => RepL.nil
  | _, _, .cons _ _ r => RepL.cons (by unfold Rep; exact ⟨_, rfl⟩) (ints_rep r)

theorem SS.objAt (st : SS G C ρ σ φ mt im fr m h) {i : Nat} {o : AObj} {v : Value} (e : σ[i]? = some o) (r : Rep G φ im (.obj i) v) : ∃ p, φ[i]? = some p ∧ v = .ref p.1 ∧ ObjAt G φ im mt p o := by
  unfold Rep at r
  obtain ⟨p, e1, rfl⟩ := r
  exact ⟨p, e1, rfl, st.hp.obj i o p e e1⟩

theorem isList_of_listOf {a : Addr} {vs : List Value} {n : Nat} (e : h.get? a = some (listOf vs.toArray n)) : h.IsList a vs.toArray := ⟨_, e, rfl, _, rfl⟩

theorem seq_of {α : Type} (st : SS G C ρ σ φ mt im fr m h) {a : AV} {v : Value} (r : Rep G φ im a v) {k : List AV → M α} {K : Res α → Prop} (hf : K .fail → False) (hs : K ((toSeq a >>= k) σ)) :
    ∃ l, SeqV G φ im h v l (isTupAV a) ∧ K (k l σ) := by
  have cap : ∀ {l : List AV}, K ((capped l >>= k) σ) → l.length ≤ sizeCap ∧ K (k l σ) := fun {l} q => by
    unfold capped at q
    by_cases e : l.length ≤ sizeCap
    · rw [if_pos e] at q; exact ⟨e, q⟩
    · rw [if_neg e] at q; exact (hf q).elim
  induction a using AV.casesOn with
  | tup l =>
    obtain ⟨e, q⟩ := cap hs
    unfold Rep at r
    obtain ⟨b, vs, n, rfl, hm, r⟩ := r
    exact ⟨l, ⟨b, vs, rfl, r, e, .inr ⟨rfl, _, st.imIn hm, rfl, _, rfl⟩⟩, q⟩
  | lst l =>
    obtain ⟨e, q⟩ := cap hs
    unfold Rep at r
    obtain ⟨b, vs, n, rfl, hm, r⟩ := r
    exact ⟨l, ⟨b, vs, rfl, r, e, .inl ⟨rfl, isList_of_listOf (st.imIn hm)⟩⟩, q⟩
  | src l =>
    obtain ⟨e, q⟩ := cap hs
    unfold Rep at r
    obtain ⟨b, vs, rfl, hl, hi⟩ := r
    obtain ⟨o, ho, hc, nn, hd⟩ := hl
    exact ⟨_, ⟨b, vs, rfl, ints_rep hi, e, .inl ⟨rfl, o, st.F.keep b o ho, hc, nn, hd⟩⟩, q⟩
  | obj i =>
    change K (((match σ[i]? with | some o => Res.ok o σ | Option.none => Res.fail).bind _).bind _) at hs
    induction e : σ[i]? using Option.casesOn with
    | none => rw [e] at hs; exact (hf hs).elim
    | some o =>
      rw [e] at hs
      obtain ⟨p, _, rfl, ob⟩ := st.objAt e r
      induction o using AObj.casesOn with
      | list l =>
        obtain ⟨e, q⟩ := cap hs
        obtain ⟨_, vs, n, hm, r⟩ := ob
        exact ⟨l, ⟨p.1, vs, rfl, r, e, .inl ⟨rfl, isList_of_listOf (st.mtIn hm)⟩⟩, q⟩
      | arr l =>
        obtain ⟨e, q⟩ := cap hs
        obtain ⟨_, o, vs, n, hm, hc, hd, r⟩ := ob
        exact ⟨l, ⟨p.1, vs, rfl, r, e, .inl ⟨rfl, o, st.mtIn hm, hc, n, hd⟩⟩, q⟩
      | tup l => exact (hf hs).elim
      | dict l => exact (hf hs).elim
      | inst c l => exact (hf hs).elim
  | none => exact (hf hs).elim
  | bool _ => exact (hf hs).elim
  | int _ => exact (hf hs).elim
  | str _ => exact (hf hs).elim
  | top _ => exact (hf hs).elim
  | unk => exact (hf hs).elim
end reading

section rules
variable {G : Gd} {C : Act} {ρ : LEnv} {m : Str → Option Value} {P : Pre} {n : Nat}

theorem Sm.ints {α β : Type} {R : VRel α β} {t : Sem β} {ma : M α} {i : Int} {v : Value} (h : ∀ φ im, P φ im → Rep G φ im (.int i) v) (k : ∀ t', v = .int i t' → Sm G C ρ m P R t ma) : Sm G C ρ m P R t ma :=
  fun σ φ mt im fr s Q E hp st hs => by
    have r := h _ _ hp
    unfold Rep at r
    obtain ⟨t', e⟩ := r
    exact k t' e σ φ mt im fr s Q E hp st hs
theorem Sm.strs {α β : Type} {R : VRel α β} {t : Sem β} {ma : M α} {i : Str} {v : Value} (h : ∀ φ im, P φ im → Rep G φ im (.str i) v) (k : ∀ t', v = .str i t' → Sm G C ρ m P R t ma) : Sm G C ρ m P R t ma :=
  fun σ φ mt im fr s Q E hp st hs => by
    have r := h _ _ hp
    unfold Rep at r
    obtain ⟨t', e⟩ := r
    exact k t' e σ φ mt im fr s Q E hp st hs

theorem rep_int {φ : Ids} {im : Ledger} (i : Int) (t : Tok) : Rep G φ im (.int i) (.int i t) := by unfold Rep; exact ⟨_, rfl⟩
theorem rep_str {φ : Ids} {im : Ledger} (i : Str) (t : Tok) : Rep G φ im (.str i) (.str i t) := by unfold Rep; exact ⟨_, rfl⟩
theorem rep_bool {φ : Ids} {im : Ledger} (b : Bool) : Rep G φ im (.bool b) (.bool b) := by unfold Rep; rfl
theorem rep_none {φ : Ids} {im : Ledger} : Rep G φ im .none .none := by unfold Rep; rfl

theorem mulOk_small {x y : Int} (hx : small x = true) : IntMulOk x y := by
  unfold small at hx
  simp only [Bool.and_eq_true, decide_eq_true_eq] at hx
  exact IntMulOk.of_left (intBits_le_64 (by omega) (by omega))

theorem Sm.onS {α β γ : Type} {R : VRel α β} {t : Sem β} {o : Option γ} {f : γ → M α} (h : ∀ b, o = some b → Sm G C ρ m P R t (f b)) : Sm G C ρ m P R t (onS o f) := by
  induction o using Option.casesOn with
  | none => exact Sm.fail
  | some b => exact h b rfl
theorem sm_int2 {t : Value → Value → Sem Value} {a b : AV} {va vb : Value} {f : Int → Int → M AV} (ha : ∀ φ im, P φ im → Rep G φ im a va) (hb : ∀ φ im, P φ im → Rep G φ im b vb)
    (h : ∀ x y i j, Sm G C ρ m P (Rep G) (t (.int x i) (.int y j)) (f x y)) : Sm G C ρ m P (Rep G) (t va vb) (int2 a b f) := by
  refine Sm.onS fun x e => Sm.onS fun y e' => ?_
  cases AV.int?_some e
  cases AV.int?_some e'
  refine Sm.ints ha fun _ e => Sm.ints hb fun _ e' => ?_
  subst e e'
  exact h _ _ _ _
theorem sm_addM (hC : C.Ok n) {a b : AV} {va vb : Value} (ha : ∀ φ im, P φ im → Rep G φ im a va) (hb : ∀ φ im, P φ im → Rep G φ im b vb) :
    Sm G C ρ m P (Rep G) (binaryOp .Add va vb) (addM a b) := by
  unfold addM
  induction hc : isList a && isList b using Bool.casesOn with
  | true =>
    rw [if_pos rfl]
    rw [Bool.and_eq_true] at hc
    intro σ φ mt im fr s Q E hp st hs
    obtain ⟨l, sa, hs⟩ := seq_of st (ha _ _ hp) (K := Sp G C ρ m (Rep G) φ im fr Q E s) (fun x => x) hs
    obtain ⟨l', sb, hs⟩ := seq_of st (hb _ _ hp) (K := Sp G C ρ m (Rep G) φ im fr Q E s) (fun x => x) hs
    obtain ⟨hz, hs⟩ := on_if (K := Sp G C ρ m (Rep G) φ im fr Q E s) (fun x => x) hs
    obtain ⟨x, vs, rfl, rl, hl, hx⟩ := sa.out
    obtain ⟨y, ws, rfl, rl', hl', hy⟩ := sb.out
    have hx : s.heap.IsList x vs.toArray := by rcases hx with ⟨_, hx⟩ | ⟨e, _⟩; exact hx; exact (notTup hc.1 e).elim
    have hy : s.heap.IsList y ws.toArray := by rcases hy with ⟨_, hx⟩ | ⟨e, _⟩; exact hx; exact (notTup hc.2 e).elim
    refine add_arrays st.F st.N hx hy (fun h' F' N' => ?_) (by simp only [List.size_toArray, rl.length, rl'.length, sizeLine_eq]; unfold sizeCap at hl hl'; omega)
    refine hs φ mt _ fr h' s.toks _ (Ext.addIm _) (st.addIm (o := listOf (vs ++ ws).toArray 0) F' (by simpa using N') (Nat.le_refl _) ⟨fun es n e => (by cases e), fun v e => (by cases e)⟩) ?_
    unfold Rep
    exact ⟨_, vs ++ ws, 0, rfl, .head _, (rl.append rl').ext (Ext.addIm (fr := fr) _)⟩
  | false =>
    rw [if_neg (fun e => by exact (no_ft e).elim)]
    induction e : a.str? using Option.casesOn with
    | some x =>
      refine Sm.onS fun y e' => ?_
      cases AV.str?_some e
      cases AV.str?_some e'
      refine Sm.strs ha fun _ e => Sm.strs hb fun _ e' => ?_
      subst e e'
      refine Sm.cond fun hc => ?_
      exact Sm.toks fun σ φ mt im fr s Q E _ _ h => add_str (fun t' tk => h _ _ (rep_str ..)) (by rw [sizeLine_eq]; unfold sizeCap at hc; omega)
    | none => exact sm_int2 ha hb fun x y _ _ => Sm.toks fun σ φ mt im fr s Q E _ _ h => add_int (h _ _ (rep_int ..))
theorem sm_binM (hC : C.Ok n) (op : Operator) {a b : AV} {va vb : Value} (ha : ∀ φ im, P φ im → Rep G φ im a va) (hb : ∀ φ im, P φ im → Rep G φ im b vb) :
    Sm G C ρ m P (Rep G) (binaryOp op va vb) (binM op a b) := by
  induction op using PySem.Operator.casesOn with
  | Add => exact sm_addM hC ha hb
  | Sub => exact sm_int2 ha hb fun x y _ _ => Sm.toks fun σ φ mt im fr s Q E _ _ h => sub_int (h _ _ (rep_int ..))
  | Mult =>
    refine sm_int2 ha hb fun x y _ _ => Sm.cond fun hc => ?_
    rw [Bool.and_eq_true] at hc
    exact Sm.toks fun σ φ mt im fr s Q E _ _ h => mul_int (h _ _ (rep_int ..)) (mulOk_small hc.1)
  | Mod => exact sm_int2 ha hb fun x y _ _ => Sm.cond fun hc => Sm.toks fun σ φ mt im fr s Q E _ _ h => mod_int' (Int.ne_of_gt hc) (h _ _ (rep_int ..))
  | FloorDiv => exact sm_int2 ha hb fun x y _ _ => Sm.cond fun hc => Sm.toks fun σ φ mt im fr s Q E _ _ h => floordiv_int (Int.ne_of_gt hc.1) (h _ _ (rep_int ..)) (.inl (PyProof.noPylong_small (by omega)))
  | Pow =>
    refine sm_int2 ha hb fun x y _ _ => Sm.cond fun hc => ?_
    obtain ⟨rfl, rfl⟩ := hc
    exact Sm.toks fun σ φ mt im fr s Q E _ _ h => pow_int (by decide) (by decide +kernel) (h _ _ (rep_int ..))
  | _ => exact Sm.fail
end rules
end Mine
end
section
namespace Mine
open PySem PySem.W PySem.Calls PyProof.Rows

theorem bind_assocM {α β γ : Type} (x : M α) (f : α → M β) (g : β → M γ) : (x >>= f) >>= g = x >>= fun a => f a >>= g := by
  funext σ
  show ((x σ).bind f).bind g = (x σ).bind _
  cases x σ <;> rfl

section rules
variable {G : Gd} {C : Act} {ρ : LEnv} {m : Str → Option Value} {P : Pre} {n : Nat}

theorem Act.Ok.room (hC : C.Ok n) : C.A.units + 80 < cLine := by have := hC.units; omega

theorem Sp.failOut {α β : Type} {R : VRel α β} {φ im fr} {Q : β → Shared → Prop} {E : Value → Shared → Prop} {s : Shared} : Sp G C ρ m R φ im fr Q E s (Res.fail : Res α) → False := fun h => h
theorem Sp.okOut {α β : Type} {R : VRel α β} {σ : AHeap} {φ mt im fr} {Q : β → Shared → Prop} {E : Value → Shared → Prop} {s : Shared} {a : α} {b : β} (h : Sp G C ρ m R φ im fr Q E s (Res.ok a σ)) (st : SS G C ρ σ φ mt im fr m s.heap) (r : R φ im a b) (tk : Nat) :
    Q b { s with toks := tk } := h φ mt im fr s.heap tk b (Ext.refl ..) st r

noncomputable def eqOp (neg : Bool) : CmpOp := if neg then .NotEq else .Eq

theorem sm_eq (hC : C.Ok n) (neg : Bool) {a b : AV} {va vb : Value} (ha : ∀ φ im, P φ im → Rep G φ im a va) (hb : ∀ φ im, P φ im → Rep G φ im b vb) :
    Sm G C ρ m P (Rep G) (compareOp (eqOp neg) va vb) (do return .bool (xor neg (← eqM a b))) := by
  intro σ φ mt im fr s Q E hp st hs
  have hu := hC.room
  have hra := ha _ _ hp
  have hrb := hb _ _ hp
  unfold eqM at hs
  by_cases hn : (isNil b && isList a) = true
  · rw [if_pos hn] at hs
    rw [Bool.and_eq_true] at hn
    rw [bind_assocM] at hs
    obtain ⟨l, sa, hs⟩ := seq_of st hra (K := Sp G C ρ m (Rep G) φ im fr Q E s) (fun x => x) hs
    obtain ⟨x, vs, rfl, rl, hl, hx⟩ := sa.out
    have hx : s.heap.IsList x vs.toArray := by rcases hx with ⟨_, hx⟩ | ⟨e, _⟩; exact hx; exact (notTup hn.2 e).elim
    induction b using AV.casesOn with
    | lst l' =>
      induction l' using List.casesOn with
      | cons _ _ => cases hn.1
      | nil =>
        unfold Rep at hrb
        obtain ⟨y, ws, n', rfl, hm, rb⟩ := hrb
        have hw : ws = [] := List.eq_nil_of_length_eq_zero (by rw [rb.length]; rfl)
        subst hw
        have hy := isList_of_listOf (st.imIn hm)
        have hle := rl.length
        have fin : Q (.bool (xor neg l.isEmpty)) s := Sp.okOut (tk := s.toks) hs st (rep_bool _)
        induction l using List.casesOn with
        | nil =>
          have hv : vs = [] := List.eq_nil_of_length_eq_zero (by rw [hle]; rfl)
          subst hv
          induction neg using Bool.casesOn with
          | false => exact cmp_ofEq (SeqAt.RcAt.lists (e := fun _ => true) hx hy rfl (by omega) (fun j h1 _ => absurd h1 (Nat.not_lt_zero _)) _ _ _ _ fin)
          | true => exact cmp_ofNotEq (SeqAt.RcNeAt.lists (e := fun _ => true) hx hy rfl (by omega) (fun j h1 _ => absurd h1 (Nat.not_lt_zero _)) _ _ _ _ fin)
        | cons a l =>
          have hz : (vs.toArray.size != ([] : List Value).toArray.size) = true := by simp only [List.size_toArray, hle]; rfl
          induction neg using Bool.casesOn with
          | false => exact cmp_ofEq (SeqAt.RcAt.lists_lengths hx hy hz (by omega) _ _ _ _ fin)
          | true => exact cmp_ofNotEq (SeqAt.RcNeAt.lists_lengths hx hy hz (by omega) _ _ _ _ fin)
    | _ => cases hn.1
  · rw [if_neg hn] at hs
    induction e1 : toPD a using Option.casesOn with
    | none => rw [e1] at hs; exact hs.elim
    | some p =>
      induction e2 : toPD b using Option.casesOn with
      | none => rw [e1, e2] at hs; exact hs.elim
      | some q =>
        rw [e1, e2] at hs
        dsimp only at hs
        obtain ⟨as, ra⟩ := reads_of st e1 hra
        obtain ⟨bs, rb⟩ := reads_of st e2 hrb
        by_cases hk : (SeqAt.shaped p && SeqAt.shaped q) = true
        · rw [if_pos hk] at hs
          rw [Bool.and_eq_true] at hk
          have fin : Q (.bool (xor neg (PyData.eqv p q))) s := Sp.okOut (tk := s.toks) hs st (rep_bool _)
          induction neg using Bool.casesOn with
          | false => exact eq_dataH ra rb hk.1 hk.2 (by omega) (by simpa using fin)
          | true => exact ne_dataH ra rb hk.1 hk.2 (by omega) (by simpa using fin)
        · rw [if_neg hk] at hs
          exact hs.elim

theorem getObj_out {α : Type} {σ : AHeap} {i : Nat} {k : AObj → M α} {K : Res α → Prop} (hf : K .fail → False) (hs : K ((getObj i >>= k) σ)) : ∃ o, σ[i]? = some o ∧ K (k o σ) := by
  change K ((match σ[i]? with | some o => Res.ok o σ | Option.none => Res.fail).bind _) at hs
  induction e : σ[i]? using Option.casesOn with
  | none => rw [e] at hs; exact (hf hs).elim
  | some o => rw [e] at hs; exact ⟨o, rfl, hs⟩

theorem noneK_rep {φ im} {a : AV} {v : Value} {t : Bool} (h : noneK a = some t) (r : Rep G φ im a v) : (v == Value.none) = t := by
  induction a using AV.casesOn with
  | none => cases h; cases (show v = .none from r); rfl
  | top u => exact (no_ns h).elim
  | unk => exact (no_ns h).elim
  | bool b => cases h; cases (show v = .bool b from r); rfl
  | int b => cases h; obtain ⟨t, rfl⟩ : ∃ t, v = .int b t := r; rfl
  | str b => cases h; obtain ⟨t, rfl⟩ : ∃ t, v = .str b t := r; rfl
  | tup b => cases h; unfold Rep at r; obtain ⟨t, _, _, rfl, _⟩ := r; rfl
  | lst b => cases h; unfold Rep at r; obtain ⟨t, _, _, rfl, _⟩ := r; rfl
  | obj b => cases h; unfold Rep at r; obtain ⟨t, _, rfl⟩ := r; rfl
  | src b => cases h; unfold Rep at r; obtain ⟨t, _, rfl, _⟩ := r; rfl

theorem same_tuples {M : Model} {A : Around} {s : Shared} {E : Value → Shared → Prop} {x y : Addr} {xs ys : Array Value} {ox oy : Obj} {nx ny : Nat} {R : Bool → Shared → Prop} (hxy : x ≠ y) (hx : s.heap.get? x = some ox) (hy : s.heap.get? y = some oy)
    (cx : ox.cls = .type "tuple") (cy : oy.cls = .type "tuple") (dx : ox.data = .seq xs nx) (dy : oy.data = .seq ys ny) (hne : xs.size ≠ ys.size) (h : R false s) : wpAny M A (isSame (.ref x) (.ref y)) R E s := by
  show wpAny M A (if (x == y) = true then pure true else _) R E s
  rw [if_neg (by simpa using hxy)]
  refine wpAny_bind (wpAny_load hx (wpAny_bind (wpAny_load hy ?_)))
  rw [cx, cy, dx, dy]
  show wpAny M A (if (xs.isEmpty && ys.isEmpty) = true then _ else _) R E s
  rw [if_neg (by
    intro e
    simp only [Bool.and_eq_true, Array.isEmpty_iff] at e
    exact hne (by rw [e.1, e.2]))]
  unfold sameTuple
  refine wpAny_bind (wpAny_askSetting ?_)
  dsimp only
  split
  · exact wpAny_pure h
  · split
    · exact wpAny_pure h
    · refine wpAny_bind (wpAny_holding ?_)
      unfold sameItems
      rw [if_pos (by simpa using hne)]
      exact wpAny_pure (wpAny_pure h)

noncomputable def isOp (neg : Bool) : CmpOp := if neg then .IsNot else .Is
noncomputable def negAV (neg : Bool) : AV → AV
  | .bool t => .bool (xor neg t)
  | v => v

theorem sm_is (neg : Bool) {a b : AV} {va vb : Value} (ha : ∀ φ im, P φ im → Rep G φ im a va) (hb : ∀ φ im, P φ im → Rep G φ im b vb) :
    Sm G C ρ m P (Rep G) (compareOp (isOp neg) va vb) (do return negAV neg (← isM a b)) := by
  intro σ φ mt im fr s Q E hp st hs
  have hra := ha _ _ hp
  have hrb := hb _ _ hp
  have noneCase : b = .none → ∀ t : Bool, (va == Value.none) = t → Q (.bool (xor neg t)) s → wpAny (model G.prog G.w) C.A (compareOp (isOp neg) va vb) Q E s := fun e t ht fin => by
    subst e
    unfold Rep at hrb
    subst hrb
    induction neg using Bool.casesOn with
    | false => exact is_none (by rw [ht]; simpa using fin)
    | true => exact isNot_none (by rw [ht]; simpa using fin)
  unfold isM at hs
  induction hb : isNone b using Bool.casesOn with
  | true =>
    rw [hb, if_pos rfl] at hs
    obtain ⟨t, e, hs⟩ := onS_out (K := fun r => Sp G C ρ m (Rep G) φ im fr Q E s (r.bind fun r => pure (negAV neg r))) (fun x => x) hs
    exact noneCase (isNone_of hb) t (noneK_rep e hra) (Sp.okOut (tk := s.toks) hs st (rep_bool _))
  | false =>
    rw [hb, if_neg (fun e => by exact (no_ft e).elim)] at hs
    obtain ⟨j, e, hs1⟩ := on_obj (K := fun r => Sp G C ρ m (Rep G) φ im fr Q E s (r.bind fun r => pure (negAV neg r))) (fun x => x) hs
    clear hs noneCase
    subst e
    unfold isM' at hs1
    induction ei : a.obj? using Option.casesOn with
    | some i =>
      cases AV.obj?_some ei
      rw [ei] at hs1
      obtain ⟨e, hs⟩ := on_if (K := fun r => Sp G C ρ m (Rep G) φ im fr Q E s (r.bind fun r => pure (negAV neg r))) (fun x => x) hs1
      clear hs1 ha hb
      subst e
      have fin : Q (.bool (xor neg true)) s := Sp.okOut (tk := s.toks) hs st (rep_bool _)
      obtain ⟨p, e1, rfl⟩ : ∃ p, φ[i]? = some p ∧ va = .ref p.1 := by unfold Rep at hra; exact hra
      obtain ⟨q, e2, rfl⟩ : ∃ p, φ[i]? = some p ∧ vb = .ref p.1 := by unfold Rep at hrb; exact hrb
      rw [e1] at e2
      cases e2
      induction neg using Bool.casesOn with
      | false => exact wpAny_is_ref_self (by simpa using fin)
      | true => exact wpAny_isNot_ref_self (by simpa using fin)
    | none =>
      rw [ei] at hs1
      obtain ⟨l, e, hs⟩ := on_tup (K := fun r => Sp G C ρ m (Rep G) φ im fr Q E s (r.bind fun r => pure (negAV neg r))) (fun x => x) hs1
      clear hs1 ha hb
      subst e
      obtain ⟨o, e, hs⟩ := getObj_out (K := fun r => Sp G C ρ m (Rep G) φ im fr Q E s (r.bind fun r => pure (negAV neg r))) (fun x => x) hs
      obtain ⟨p, _, rfl, ob⟩ := st.objAt e hrb
      induction o using AObj.casesOn with
      | tup l' =>
        dsimp only at hs
        by_cases hl : l.length = l'.length
        · rw [if_pos hl] at hs; exact hs.elim
        · rw [if_neg hl] at hs
          obtain ⟨_, ws, n', hm, rb⟩ := ob
          unfold Rep at hra
          obtain ⟨x, vs, n'', rfl, hmx, rx⟩ := hra
          have hxy : x ≠ p.1 := fun e => st.sep _ hm _ (List.mem_append.mpr (.inl hmx)) e.symm
          have fin : Q (.bool (xor neg false)) s := Sp.okOut (tk := s.toks) hs st (rep_bool _)
          have go : ∀ (R : Bool → Shared → Prop), R false s → wpAny (model G.prog G.w) C.A (isSame (.ref x) (.ref p.1)) R E s := fun R hR =>
            same_tuples hxy (st.imIn hmx) (st.mtIn hm) rfl rfl rfl rfl (by simp only [List.size_toArray, rx.length, rb.length]; exact hl) hR
          induction neg using Bool.casesOn with
          | false =>
            show wpAny _ _ (do return .bool (← isSame (.ref x) (.ref p.1))) Q E s
            exact wpAny_bind (go _ (wpAny_pure (by simpa using fin)))
          | true =>
            show wpAny _ _ (do return .bool (!(← isSame (.ref x) (.ref p.1)))) Q E s
            exact wpAny_bind (go _ (wpAny_pure (by simpa using fin)))
      | _ => exact hs.elim
end rules
end Mine
end
section
namespace Mine
open PySem PySem.W PySem.Calls PyProof.Rows

theorem KvRep.valueAt {G : Gd} {φ im} {x : Str} : ∀ {l : List (Str × AV)} {kvs : List (Str × Value)}, KvRep G φ im l kvs →
    (match l.lookup x with | some a => ∃ v, PySem.valueAt kvs x = some v ∧ Rep G φ im a v | none => PySem.valueAt kvs x = none)
  | [], [], _ => rfl
  | (y, a) :: l, (z, v) :: kvs, h => by
    obtain ⟨rfl, r, h⟩ := h
    have ih := KvRep.valueAt (x := x) h
    rw [List.lookup_cons]
    unfold PySem.valueAt
    rw [List.find?_cons]
    by_cases e : x = z
    · subst e
      simp only [beq_self_eq_true, decide_true]
      exact ⟨v, rfl, r⟩
    · have e1 : (x == z) = false := by simpa using e
      have e2 : decide (z = x) = false := by simpa using fun q => e q.symm
      simp only [e1, e2]
      exact ih
  | [], _ :: _, h => h.elim
  | _ :: _, [], h => h.elim

section tails
variable {prog : Program} {w : World} {A : Around} {E : Value → Shared → Prop} {s : Shared} {T id : String} {o i : Value} {value : Expr} {Q : Value → Shared → Prop}
theorem sub_tail {slice : Expr} (hs : ∀ l u p, slice ≠ .Slice l u none p) (hT : s.TypeIs o T) (hl : typeLookup (.type T) "__getitem__" = pure (some (.builtin id))) (h : wpAny (model prog w) A (getItem o i) Q E s) :
    wpAny (model prog w) A (subscriptTail value slice o i) Q E s := by
  unfold subscriptTail
  refine wpAny_bind ?_
  rw [getitemInPython_of_ne hT.not_modules]
  refine wpAny_bind (wpAny_specialOf hT hl ?_)
  have e : subscripted slice false o i = operate [o, i] (getItem o i) := by
    induction slice using PySem.Expr.casesOn with
    | Slice l u st p => induction st using Option.casesOn with
      | none => exact absurd rfl (hs l u p)
      | some _ => rfl
    | _ => rfl
  have fin : wpAny (model prog w) A (subscripted slice false o i) (fun r s₃ => wpAny (model prog w) A (letTemporaryGo value o r >>= fun _ => pure r) Q E s₃) E s := by
    rw [e]
    exact wpAny_operating (wpAny_mono h (fun r s₃ h₃ => wpAny_bind (wpAny_letTemporaryGo (wpAny_pure h₃))) fun _ _ x => x)
  first
    | exact wpAny_pure (wpAny_bind fin)
    | exact wpAny_bind (wpAny_pure (wpAny_bind fin))
    | exact wpAny_bind fin
theorem sub_tail_slice {l u : Option Expr} {p : Pos} (hT : s.TypeIs o T) (hl : typeLookup (.type T) "__getitem__" = pure (some (.builtin id))) (h : wpAny (model prog w) A (getItem o i) Q E s) :
    wpAny (model prog w) A (subscriptTail value (.Slice l u none p) o i) Q E s := by
  unfold subscriptTail
  refine wpAny_bind ?_
  rw [getitemInPython_of_ne hT.not_modules]
  refine wpAny_bind (wpAny_specialOf hT hl ?_)
  have fin : wpAny (model prog w) A (operate [i, o] (getItem o i)) (fun r s₃ => wpAny (model prog w) A (letTemporaryGo value o r >>= fun _ => pure r) Q E s₃) E s :=
    wpAny_operating (wpAny_mono h (fun r s₃ h₃ => wpAny_bind (wpAny_letTemporaryGo (wpAny_pure h₃))) fun _ _ x => x)
  first
    | exact wpAny_pure (wpAny_bind fin)
    | exact wpAny_bind (wpAny_pure (wpAny_bind fin))
    | exact wpAny_bind fin
end tails

section rules
variable {G : Gd} {C : Act} {ρ : LEnv} {m : Str → Option Value} {P : Pre} {n : Nat}

theorem canLay_shaped {p : PyData} (h : SeqAt.shaped p = true) : p.canLay0 = true ∧ p.depth ≤ 64 := by
  unfold SeqAt.shaped at h
  simpa using h

noncomputable def inOp (neg : Bool) : CmpOp := if neg then .NotIn else .In

theorem sm_in (ok : G.Ok) (hC : C.Ok n) (neg : Bool) {a b : AV} {va vb : Value} (ha : ∀ φ im, P φ im → Rep G φ im a va) (hb : ∀ φ im, P φ im → Rep G φ im b vb) :
    Sm G C ρ m P (Rep G) (compareOp (inOp neg) va vb) (do return .bool (xor neg (← inM a b))) := by
  intro σ φ mt im fr s Q E hp st hs
  have hu := hC.room
  have hra := ha _ _ hp
  have hrb := hb _ _ hp
  unfold inM at hs
  split at hs
  · rename_i l
    induction e1 : toPD a using Option.casesOn with
    | none => rw [e1] at hs; exact hs.elim
    | some d =>
      induction e2 : toPDs l using Option.casesOn with
      | none => rw [e1, e2] at hs; exact hs.elim
      | some xs =>
        rw [e1, e2] at hs
        dsimp only at hs
        by_cases hk : (SeqAt.shaped d && PyData.canLayAll0 xs) = true
        · rw [if_pos hk] at hs
          rw [Bool.and_eq_true] at hk
          obtain ⟨as, ra⟩ := reads_of st e1 hra
          obtain ⟨bs, rb⟩ := reads_of st (p := .tuple xs) (by simp [toPD, e2]) hrb
          have fin : Q (.bool (xor neg (xs.any fun y => PyData.eqv y d))) s := Sp.okOut (tk := s.toks) hs st (rep_bool _)
          have hd := canLay_shaped hk.1
          have hm : min (PyData.depthAll xs) d.depth ≤ d.depth := Nat.min_le_right _ _
          induction neg using Bool.casesOn with
          | false => exact SeqAt.in_tuple_reads rb ra hk.2 hd.1 (by omega) (by simpa using fin)
          | true => exact SeqAt.notIn_tuple_reads rb ra hk.2 hd.1 (by omega) (by simpa using fin)
        · rw [if_neg hk] at hs
          exact hs.elim
  · rename_i l
    induction e1 : toPD a using Option.casesOn with
    | none => rw [e1] at hs; exact hs.elim
    | some d =>
      induction e2 : toPDs l using Option.casesOn with
      | none => rw [e1, e2] at hs; exact hs.elim
      | some xs =>
        rw [e1, e2] at hs
        dsimp only at hs
        by_cases hk : (SeqAt.shaped d && PyData.canLayAll0 xs) = true
        · rw [if_pos hk] at hs
          rw [Bool.and_eq_true] at hk
          obtain ⟨as, ra⟩ := reads_of st e1 hra
          obtain ⟨bs, rb⟩ := reads_of st (p := .list xs) (by simp [toPD, e2]) hrb
          have fin : Q (.bool (xor neg (xs.any fun y => PyData.eqv y d))) s := Sp.okOut (tk := s.toks) hs st (rep_bool _)
          have hd := canLay_shaped hk.1
          have hm : min (PyData.depthAll xs) d.depth ≤ d.depth := Nat.min_le_right _ _
          induction neg using Bool.casesOn with
          | false => exact SeqAt.in_list_reads rb ra hk.2 hd.1 (by omega) (by simpa using fin)
          | true => exact SeqAt.notIn_list_reads rb ra hk.2 hd.1 (by omega) (by simpa using fin)
        · rw [if_neg hk] at hs
          exact hs.elim
  · rename_i i
    rw [bind_assocM] at hs
    change Sp G C ρ m (Rep G) φ im fr Q E s ((match σ[i]? with | some o => Res.ok o σ | Option.none => Res.fail).bind _) at hs
    induction e : σ[i]? using Option.casesOn with
    | none => rw [e] at hs; exact hs.elim
    | some o =>
      rw [e] at hs
      obtain ⟨p, _, rfl, ob⟩ := st.objAt e hrb
      induction o using AObj.casesOn with
      | dict l =>
        induction a using AV.casesOn with
        | str x =>
          obtain ⟨_, o, kvs, hm, hd, rk⟩ := ob
          unfold Rep at hra
          obtain ⟨t, rfl⟩ := hra
          have M := Heap.DictOf.mapOf (Heap.dictOf_iff.mpr ⟨o, st.mtIn hm, hd⟩)
          have hne : (p.1 == sysModules) = false := by
            obtain ⟨o', ho'⟩ := ok.mods
            rw [beq_eq_false_iff_ne]
            intro e
            have := (st.N _ (List.mem_append.mpr (.inl hm))).2.2
            rw [e, ho'] at this; exact (no_sn this).elim
          have hv : (PySem.valueAt kvs x).isSome = (l.lookup x).isSome := by
            have := rk.valueAt (x := x)
            induction e : l.lookup x using Option.casesOn with
            | none => rw [e] at this; dsimp only at this; rw [this]; rfl
            | some a => rw [e] at this; obtain ⟨v, e', _⟩ := this; rw [e']; rfl
          have fin := Sp.okOut (tk := s.toks + 1) hs st (rep_bool _)
          induction neg using Bool.casesOn with
          | false => exact wpAny_in_of (knd := PySem.strKind G.prog G.w) (k := x) (by simp [PySem.strKind, Value.isStrOf]) hne M (by rw [hv]; simpa using fin)
          | true => exact wpAny_notIn_of (knd := PySem.strKind G.prog G.w) (k := x) (by simp [PySem.strKind, Value.isStrOf]) hne M (by rw [hv]; simpa using fin)
        | _ => exact hs.elim
      | _ => exact hs.elim
  · exact hs.elim

theorem sm_cmpM (ok : G.Ok) (hC : C.Ok n) (op : CmpOp) {a b : AV} {va vb : Value} (ha : ∀ φ im, P φ im → Rep G φ im a va) (hb : ∀ φ im, P φ im → Rep G φ im b vb) :
    Sm G C ρ m P (Rep G) (compareOp op va vb) (cmpM op a b) := by
  unfold cmpM
  induction op using PySem.CmpOp.casesOn with
  | Eq => simpa [eqOp] using sm_eq (ρ := ρ) (m := m) hC false ha hb
  | NotEq => simpa [eqOp] using sm_eq (ρ := ρ) (m := m) hC true ha hb
  | Lt =>
    dsimp only
    split
    · refine Sm.ints ha fun _ e => Sm.ints hb fun _ e' => ?_
      subst e e'
      exact Sm.toks fun σ φ mt im fr s Q E _ _ h => lt_int (h s.toks _ (rep_bool ..))
    · exact Sm.fail
  | Gt =>
    dsimp only
    split
    · refine Sm.ints ha fun _ e => Sm.ints hb fun _ e' => ?_
      subst e e'
      exact Sm.toks fun σ φ mt im fr s Q E _ _ h => gt_int (h s.toks _ (rep_bool ..))
    · exact Sm.fail
  | Is =>
    have e : (isM a b >>= fun r => pure (negAV false r)) = isM a b := by
      funext σ
      show (isM a b σ).bind _ = _
      induction isM a b σ using Res.casesOn with
      | ok v σ' => cases v <;> first | rfl | (show Res.ok (AV.bool _) _ = _; simp)
      | _ => rfl
    have := sm_is (ρ := ρ) (m := m) (C := C) false ha hb
    rw [e] at this
    exact this
  | IsNot =>
    have e : (isM a b >>= fun r => pure (negAV true r)) = (do match ← isM a b with
      | .bool t => pure (.bool (!t))
      | v => pure v : M AV) := by
      funext σ
      show (isM a b σ).bind _ = (isM a b σ).bind _
      induction isM a b σ using Res.casesOn with
      | ok v σ' => cases v <;> first | rfl | (show Res.ok (AV.bool _) _ = Res.ok (AV.bool _) _; simp)
      | _ => rfl
    have := sm_is (ρ := ρ) (m := m) (C := C) true ha hb
    rw [e] at this
    exact this
  | In => simpa [inOp] using sm_in (ρ := ρ) (m := m) ok hC false ha hb
  | NotIn => simpa [inOp] using sm_in (ρ := ρ) (m := m) ok hC true ha hb
  | LtE => exact Sm.fail
  | GtE => exact Sm.fail

theorem notSlice_of {slice : Expr} (h : (match slice with | .Slice _ _ Option.none _ => false | _ => true) = true) : ∀ l u p, slice ≠ .Slice l u none p := by
  rintro l u p rfl
  exact (no_ft h).elim

theorem sm_item {value slice : Expr} (hsl : ∀ l u p, slice ≠ .Slice l u none p) {a b : AV} {va vb : Value} (ha : ∀ φ im, P φ im → Rep G φ im a va) (hb : ∀ φ im, P φ im → Rep G φ im b vb) :
    Sm G C ρ m P (Rep G) (subscriptTail value slice va vb) (itemM a b) := by
  intro σ φ mt im fr s Q E hp st hs
  have hra := ha _ _ hp
  have hrb := hb _ _ hp
  have gen : ∀ k : Int, b = .int k → Sp G C ρ m (Rep G) φ im fr Q E s ((do
      let l ← toSeq a
      if 0 ≤ k then (match l[k.toNat]? with
        | some v => pure v
        | Option.none => failM) else failM : M AV) σ) → wpAny (model G.prog G.w) C.A (subscriptTail value slice va vb) Q E s := by
    rintro k rfl hs
    obtain ⟨l, sa, hs⟩ := seq_of st hra (K := Sp G C ρ m (Rep G) φ im fr Q E s) (fun x => x) hs
    obtain ⟨x, vs, rfl, rl, hl, hx⟩ := sa.out
    unfold Rep at hrb
    obtain ⟨t, rfl⟩ := hrb
    by_cases hk : 0 ≤ k
    · rw [if_pos hk] at hs
      induction e : l[k.toNat]? using Option.casesOn with
      | none => rw [e] at hs; exact hs.elim
      | some av =>
        rw [e] at hs
        obtain ⟨v, ev, rv⟩ := rl.get e
        have fin : Q v s := Sp.okOut (tk := s.toks) hs st rv
        have hlt : k.toNat < l.length := (List.getElem?_eq_some_iff.mp e).1
        unfold sizeCap at hl
        rcases hx with ⟨_, hx⟩ | ⟨_, hx⟩
        · exact sub_tail hsl hx.typeIs slot_list_getitem.lookup (wpAny_getItem_list hx hk (by omega) (by simpa using ev) fin)
        · exact sub_tail hsl hx.typeIs slot_tuple_getitem.lookup (getItem_tuple hx (by omega) (by omega) (j := k.toNat) (seqIndex_of hk (by rw [List.size_toArray, rl.length]; omega)) (by simpa using ev) fin)
    · rw [if_neg hk] at hs; exact hs.elim
  obtain ⟨k, e, hs1⟩ := on_int (K := Sp G C ρ m (Rep G) φ im fr Q E s) (fun x => x) hs
  clear hs
  induction ea : a.str? using Option.casesOn with
  | none => rw [ea] at hs1; exact gen k e hs1
  | some x =>
    rw [ea] at hs1
    cases AV.str?_some ea
    obtain ⟨hk, hs⟩ := on_if (K := Sp G C ρ m (Rep G) φ im fr Q E s) (fun x => x) hs1
    clear gen hs1 ha hb
    subst e
    obtain ⟨t, rfl⟩ : ∃ t, va = .str x t := by unfold Rep at hra; exact hra
    obtain ⟨u, rfl⟩ : ∃ t, vb = .int k t := by unfold Rep at hrb; exact hrb
    have fin : Q (.str ⟨#[x.cps.getD k.toNat 0]⟩ s.toks) { s with toks := s.toks + 1 } := Sp.okOut (tk := s.toks + 1) hs st (rep_str _ _)
    have h2 := hk.2.1
    have h3 := hk.2.2
    unfold sizeCap at h3
    refine sub_tail hsl (typeIs_str _ _ _) F.slot_str_getitem.lookup (PySem.P.getItem_str (c := x.cps.getD k.toNat 0) (by simp; omega) ?_ fin)
    have hlt : k.toNat < x.cps.size := by have h2 : k < x.cps.size := h2; omega
    rw [seqIndex_of hk.1 h2, Option.bind_some, Array.getElem?_eq_getElem hlt]
    simp [hlt]
end rules
end Mine
end
section
namespace Mine
open PySem PySem.W PySem.Calls PyProof.Rows

noncomputable def putAt (d : Addr) (o : Obj) (mt : Ledger) : Ledger := mt.map fun p => if p.1 = d then (d, o) else p
theorem putAt_keys (d : Addr) (o : Obj) (mt : Ledger) : (putAt d o mt).map (·.1) = mt.map (·.1) := by
  unfold putAt
  rw [List.map_map]
  apply List.map_congr_left
  intro p _
  show (if p.1 = d then (d, o) else p).1 = p.1
  split
  · rename_i h; exact h.symm
  · rfl
theorem mem_putAt {d : Addr} {o : Obj} {mt : Ledger} {p : Addr × Obj} (h : p ∈ putAt d o mt) : (p ∈ mt ∧ p.1 ≠ d) ∨ p = (d, o) := by
  unfold putAt at h
  obtain ⟨q, hq, e⟩ := List.mem_map.mp h
  split at e
  · exact .inr e.symm
  · rename_i hn; subst e; exact .inl ⟨hq, hn⟩
theorem putAt_other {d : Addr} {o : Obj} {mt : Ledger} {p : Addr × Obj} (h : p ∈ mt) (hn : p.1 ≠ d) : p ∈ putAt d o mt :=
  List.mem_map.mpr ⟨p, h, if_neg hn⟩
theorem putAt_self {d : Addr} {o o' : Obj} {mt : Ledger} (h : (d, o) ∈ mt) : (d, o') ∈ putAt d o' mt :=
  List.mem_map.mpr ⟨(d, o), h, if_pos rfl⟩
theorem nodup_unique {d : Addr} {o o' : Obj} : ∀ {mt : Ledger}, (mt.map (·.1)).Nodup → (d, o) ∈ mt → (d, o') ∈ mt → o = o'
  | [], _, h, _ => by cases h
  | p :: mt, nd, h1, h2 => by
    rw [List.map_cons, List.nodup_cons] at nd
    rcases List.mem_cons.mp h1 with e1 | g1 <;> rcases List.mem_cons.mp h2 with e2 | g2
    · rw [← e1] at e2; cases e2; rfl
    · exact absurd (List.mem_map.mpr ⟨_, g2, by rw [← e1]⟩) nd.1
    · exact absurd (List.mem_map.mpr ⟨_, g1, by rw [← e2]⟩) nd.1
    · exact nodup_unique nd.2 g1 g2

theorem upd_putAt {d : Addr} {o o' : Obj} : ∀ {mt : Ledger} {rest : Ledger}, (mt.map (·.1)).Nodup → (d, o) ∈ mt → (∀ p ∈ rest, p.1 ≠ d) → Upd d o o' (mt ++ rest) (putAt d o' mt ++ rest)
  | [], _, _, h, _ => by cases h
  | p :: mt, rest, nd, h, hr => by
    rw [List.map_cons, List.nodup_cons] at nd
    by_cases e : p.1 = d
    · have ep : p = (d, o) := by
        rcases List.mem_cons.mp h with e' | h'
        · exact e'.symm
        · exact absurd (e ▸ List.mem_map_of_mem (f := (·.1)) h') nd.1
      subst ep
      have hne : ∀ q ∈ mt, q.1 ≠ d := fun q hq e' => nd.1 (e' ▸ List.mem_map_of_mem (f := (·.1)) hq)
      have em : putAt d o' ((d, o) :: mt) = (d, o') :: mt := by
        unfold putAt
        rw [List.map_cons, if_pos rfl]
        congr 1
        conv => rhs; rw [← List.map_id mt]
        apply List.map_congr_left
        intro q hq
        rw [if_neg (hne q hq)]; rfl
      rw [em]
      refine .head fun q hq => ?_
      rcases List.mem_append.mp hq with hq | hq
      · exact hne q hq
      · exact hr q hq
    · have em : putAt d o' (p :: mt) = p :: putAt d o' mt := by
        unfold putAt
        rw [List.map_cons, if_neg e]
      rw [em]
      refine .tail e (upd_putAt nd.2 ?_ hr)
      rcases List.mem_cons.mp h with e' | h'
      · subst e'; exact absurd rfl e
      · exact h'

section states
variable {G : Gd} {C : Act} {ρ : LEnv} {σ : AHeap} {φ : Ids} {mt im fr : Ledger} {m : Str → Option Value} {h h' : Heap}

theorem ObjAt.in1 {φ : Ids} {im mt : Ledger} {p : Addr × Addr} {o : AObj} (x : ObjAt G φ im mt p o) : (∃ o', (p.1, o') ∈ mt ∧ ∀ v, o'.data ≠ .cell v) ∧ ∃ o', (p.2, o') ∈ mt ∧ ∀ v, o'.data ≠ .cell v := by
  induction o using AObj.casesOn with
  | list l => obtain ⟨e, vs, n, h1, h2⟩ := x; rw [e]; exact ⟨⟨_, h1, fun v e => by cases e⟩, _, h1, fun v e => by cases e⟩
  | arr l => obtain ⟨e, o, vs, n, h1, h2, h3, h4⟩ := x; rw [e]; exact ⟨⟨_, h1, fun v e => by rw [h3] at e; cases e⟩, _, h1, fun v e => by rw [h3] at e; cases e⟩
  | tup l => obtain ⟨e, vs, n, h1, h2⟩ := x; rw [e]; exact ⟨⟨_, h1, fun v e => by cases e⟩, _, h1, fun v e => by cases e⟩
  | dict l => obtain ⟨e, o, kvs, h1, ⟨es, ep, _, h3, _⟩, _⟩ := x; rw [e]; exact ⟨⟨_, h1, fun v e => by rw [h3] at e; cases e⟩, _, h1, fun v e => by rw [h3] at e; cases e⟩
  | inst c l => obtain ⟨e, es, n, h1, h2, _⟩ := x; exact ⟨⟨_, h1, fun v e => by cases e⟩, _, h2, fun v e => by cases e⟩

theorem SS.id_lt (st : SS G C ρ σ φ mt im fr m h) {i : Nat} {p : Addr × Addr} (e : φ[i]? = some p) : p.1 < h.objs.size ∧ p.2 < h.objs.size := by
  have hl : i < σ.length := by rw [← st.hp.len]; exact (List.getElem?_eq_some_iff.mp e).1
  obtain ⟨⟨o1, h1, _⟩, o2, h2, _⟩ := (st.hp.obj i _ p (List.getElem?_eq_getElem hl) e).in1
  exact ⟨st.lt (List.mem_append.mpr (.inl h1)), st.lt (List.mem_append.mpr (.inl h2))⟩

theorem SS.setMt (st : SS G C ρ σ φ mt im fr m h) {d : Addr} {od o' : Obj} {i : Nat} {p : Addr × Addr} {oa : AObj} (hm : (d, od) ∈ mt) (hi : φ[i]? = some p) (hd : d = p.1 ∨ d = p.2)
    (F : Fr G.hb C.env.locals h' m) (N : News G.hb C.env.locals h' (putAt d o' mt ++ (im ++ fr))) (ob : ObjAt G φ im (putAt d o' mt) p oa) : SS G C ρ (σ.set i oa) φ (putAt d o' mt) im fr m h' := by
  have hil : i < σ.length := by rw [← st.hp.len]; exact (List.getElem?_eq_some_iff.mp hi).1
  refine { st with F := F, N := N, nd := by rw [putAt_keys]; exact st.nd, sep := ?_, hp := ⟨?_, ?_, st.hp.disj⟩ }
  · intro q hq r hr
    rcases mem_putAt hq with ⟨hq, _⟩ | rfl
    · exact st.sep q hq r hr
    · exact st.sep _ hm r hr
  · rw [List.length_set]; exact st.hp.len
  · intro j o q e1 e2
    by_cases e : j = i
    · subst e
      rw [List.getElem?_set_self hil] at e1
      rw [hi] at e2
      cases e1; cases e2
      exact ob
    · rw [List.getElem?_set_ne (fun x => e x.symm)] at e1
      refine (st.hp.obj j o q e1 e2).mono List.prefix_rfl (fun _ h _ => h) fun r hr hk => putAt_other hr fun er => ?_
      obtain ⟨d1, d2, d3, d4⟩ := st.hp.disj i j p q hi e2 (fun x => e x.symm)
      rcases hd with rfl | rfl <;> rcases hk with hk | hk <;> rw [hk] at er
      · exact d1 er.symm
      · exact d2 er.symm
      · exact d3 er.symm
      · exact d4 er.symm

theorem SS.changed (st : SS G C ρ σ φ mt im fr m h) {d : Addr} {od o' : Obj} (hm : (d, od) ∈ mt) (hs : Heap.SameBut d h h') (hg : h'.get? d = some o') :
    Fr G.hb C.env.locals h' m ∧ News G.hb C.env.locals h' (putAt d o' mt ++ (im ++ fr)) := by
  have D := st.N (d, od) (List.mem_append.mpr (.inl hm))
  refine ⟨st.F.change hs D.2.1 D.2.2, fun p hp => ?_⟩
  rcases List.mem_append.mp hp with hp | hp
  · rcases mem_putAt hp with ⟨hp, hn⟩ | rfl
    · have P := st.N p (List.mem_append.mpr (.inl hp))
      exact ⟨(hs.2 p.1 hn).trans P.1, P.2⟩
    · exact ⟨hg, D.2⟩
  · have P := st.N p (List.mem_append.mpr (.inr hp))
    exact ⟨(hs.2 p.1 fun e => st.sep _ hm p hp e.symm).trans P.1, P.2⟩

theorem SS.id_in (st : SS G C ρ σ φ mt im fr m h) {bd : Nat} (hb : ∀ r ∈ mt ++ (im ++ fr), r.1 < bd) {i : Nat} {p : Addr × Addr} (e : φ[i]? = some p) : p.1 < bd ∧ p.2 < bd := by
  have hl : i < σ.length := by rw [← st.hp.len]; exact (List.getElem?_eq_some_iff.mp e).1
  obtain ⟨⟨o1, h1, _⟩, o2, h2, _⟩ := (st.hp.obj i _ p (List.getElem?_eq_getElem hl) e).in1
  exact ⟨hb (p.1, o1) (List.mem_append.mpr (.inl h1)), hb (p.2, o2) (List.mem_append.mpr (.inl h2))⟩
theorem SS.allocB (st : SS G C ρ σ φ mt im fr m h) {ns : Ledger} {p : Addr × Addr} {oa : AObj} {bd : Nat} (hbd : ∀ r ∈ mt ++ (im ++ fr), r.1 < bd) (F : Fr G.hb C.env.locals h' m) (N : News G.hb C.env.locals h' (ns ++ (mt ++ (im ++ fr))))
    (ha : ∀ q ∈ ns, bd ≤ q.1) (nd : (ns.map (·.1)).Nodup) (hp : bd ≤ p.1 ∧ bd ≤ p.2) (ob : ObjAt G (φ ++ [p]) im (ns ++ mt) p oa) :
    SS G C ρ (σ ++ [oa]) (φ ++ [p]) (ns ++ mt) im fr m h' := by
  have hφ : φ <+: φ ++ [p] := List.prefix_append ..
  refine { st with F := F, N := by simpa using N, nd := ?_, sep := ?_, hp := ⟨by simp [st.hp.len], ?_, ?_⟩, loc := ?_, cell := ?_ }
  · rw [List.map_append, List.nodup_append]
    refine ⟨nd, st.nd, fun a ha' b hb e => ?_⟩
    obtain ⟨q, hq, rfl⟩ := List.mem_map.mp ha'
    obtain ⟨r, hr, rfl⟩ := List.mem_map.mp hb
    have h1 := ha q hq
    have h2 := hbd r (List.mem_append.mpr (.inl hr))
    exact Nat.ne_of_lt (Nat.lt_of_lt_of_le h2 h1) e.symm
  · intro q hq r hr
    rcases List.mem_append.mp hq with hq | hq
    · have h1 := ha q hq
      have h2 := hbd r (List.mem_append.mpr (.inr hr))
      exact (Nat.ne_of_lt (Nat.lt_of_lt_of_le h2 h1)).symm
    · exact st.sep q hq r hr
  · intro j o q e1 e2
    by_cases e : j < σ.length
    · rw [List.getElem?_append_left e] at e1
      rw [List.getElem?_append_left (by rw [st.hp.len]; exact e)] at e2
      exact (st.hp.obj j o q e1 e2).mono hφ (fun _ h _ => h) fun r hr _ => List.mem_append.mpr (.inr hr)
    · have e1' : j = σ.length := by
        have := (List.getElem?_eq_some_iff.mp e1).1
        simp at this; omega
      subst e1'
      rw [List.getElem?_append_right (Nat.le_refl _)] at e1
      rw [List.getElem?_append_right (by rw [st.hp.len]; exact Nat.le_refl _), st.hp.len] at e2
      simp only [Nat.sub_self, List.getElem?_cons_zero, Option.some.injEq] at e1 e2
      subst e1 e2
      exact ob
  · intro i j q r e1 e2 hne
    have hl := st.hp.len
    have get : ∀ {k : Nat} {x : Addr × Addr}, (φ ++ [p])[k]? = some x → (k < φ.length ∧ φ[k]? = some x) ∨ (k = φ.length ∧ x = p) := fun {k x} e => by
      by_cases hk : k < φ.length
      · rw [List.getElem?_append_left hk] at e; exact .inl ⟨hk, e⟩
      · have := (List.getElem?_eq_some_iff.mp e).1
        simp at this
        have hk' : k = φ.length := by omega
        subst hk'
        rw [List.getElem?_append_right (Nat.le_refl _)] at e
        simp at e
        exact .inr ⟨rfl, e.symm⟩
    rcases get e1 with ⟨_, f1⟩ | ⟨k1, rfl⟩ <;> rcases get e2 with ⟨_, f2⟩ | ⟨k2, rfl⟩
    · exact st.hp.disj i j q r f1 f2 hne
    · have l := st.id_in hbd f1
      exact ⟨Nat.ne_of_lt (Nat.lt_of_lt_of_le l.1 hp.1), Nat.ne_of_lt (Nat.lt_of_lt_of_le l.1 hp.2), Nat.ne_of_lt (Nat.lt_of_lt_of_le l.2 hp.1), Nat.ne_of_lt (Nat.lt_of_lt_of_le l.2 hp.2)⟩
    · have l := st.id_in hbd f2
      exact ⟨(Nat.ne_of_lt (Nat.lt_of_lt_of_le l.1 hp.1)).symm, (Nat.ne_of_lt (Nat.lt_of_lt_of_le l.2 hp.1)).symm, (Nat.ne_of_lt (Nat.lt_of_lt_of_le l.1 hp.2)).symm, (Nat.ne_of_lt (Nat.lt_of_lt_of_le l.2 hp.2)).symm⟩
    · omega
  · intro x av e k
    obtain ⟨v, e1, e2⟩ := st.loc x av e k
    exact ⟨v, e1, Rep.mono G hφ (fun _ h _ => h) e2⟩
  · intro x k
    obtain ⟨c, o, v₀, e1, e2, e3, e4⟩ := st.cell x k
    refine ⟨c, o, v₀, e1, e2, e3, fun av e => ?_⟩
    obtain ⟨v, e5, e6⟩ := e4 av e
    exact ⟨v, e5, Rep.mono G hφ (fun _ h _ => h) e6⟩
theorem SS.alloc (st : SS G C ρ σ φ mt im fr m h) {ns : Ledger} {p : Addr × Addr} {oa : AObj} (F : Fr G.hb C.env.locals h' m) (N : News G.hb C.env.locals h' (ns ++ (mt ++ (im ++ fr))))
    (ha : ∀ q ∈ ns, h.objs.size ≤ q.1) (nd : (ns.map (·.1)).Nodup) (hp : h.objs.size ≤ p.1 ∧ h.objs.size ≤ p.2) (ob : ObjAt G (φ ++ [p]) im (ns ++ mt) p oa) : SS G C ρ (σ ++ [oa]) (φ ++ [p]) (ns ++ mt) im fr m h' :=
  st.allocB (fun r hr => st.lt hr) F N ha nd hp ob
theorem Ext.alloc {φ : Ids} {im fr : Ledger} (p : Addr × Addr) : Ext φ im fr (φ ++ [p]) im fr := ⟨List.prefix_append .., fun _ h => h, fun _ h => .self h⟩

theorem rep_obj_new {φ : Ids} {σ : AHeap} {p : Addr × Addr} {im : Ledger} (e : φ.length = σ.length) : Rep G (φ ++ [p]) im (.obj σ.length) (.ref p.1) := by
  unfold Rep
  exact ⟨p, by rw [← e, List.getElem?_append_right (Nat.le_refl _)]; simp, rfl⟩
end states
end Mine
end
section
namespace Mine
open PySem PySem.W PySem.Calls PyProof.Rows

section fields
variable {G : Gd} {φ : Ids} {im : Ledger}
theorem FldRep.getL {x : Str} : ∀ {l : List (Str × AV)} {es : List DictEntry}, FldRep G φ im l es →
    (match l.lookup x with | some a => ∃ v, W.getL x es = some (some v) ∧ Rep G φ im a v | none => W.getL x es = some none)
  | [], [], _ => rfl
  | (y, a) :: l, e :: es, h => by
    obtain ⟨⟨t, hk⟩, hh, r, h⟩ := h
    have ih := FldRep.getL (x := x) h
    obtain ⟨eh, ek, ev⟩ := e
    dsimp only at hk
    subst hk
    rw [List.lookup_cons]
    unfold W.getL at ih ⊢
    rw [List.find?_cons, List.any_cons]
    by_cases e : x = y
    · subst e
      simp only [beq_self_eq_true, Value.isStr]
      exact ⟨ev, rfl, r⟩
    · have e1 : (x == y) = false := by simpa using e
      have e2 : (Value.str y t).isStr x = false := by simpa [Value.isStr] using fun q => e q.symm
      simp only [e1, e2]
      have e3 : (DictEntry.mk eh (.str y t) ev).refKey = false := rfl
      rw [e3, Bool.false_or]
      exact ih
  | [], _ :: _, h => h.elim
  | _ :: _, [], h => h.elim
theorem FldRep.putL {x : Str} {t : Tok} {a : AV} {v : Value} (ra : Rep G φ im a v) : ∀ {l : List (Str × AV)} {es : List DictEntry}, FldRep G φ im l es → FldRep G φ im (putF x a l) (W.putL x (PyData.keyHash G.w.params x) (.str x t) v es)
  | [], [], _ => ⟨⟨t, rfl⟩, rfl, ra, trivial⟩
  | (y, u) :: l, e :: es, h => by
    obtain ⟨⟨t', hk⟩, hh, r, h⟩ := h
    obtain ⟨eh, ek, ev⟩ := e
    dsimp only at hk hh
    subst hk
    unfold putF W.putL
    by_cases e : y = x
    · subst e
      rw [if_pos rfl, if_pos (by simp [Value.isStr])]
      exact ⟨⟨t', rfl⟩, hh, ra, h⟩
    · rw [if_neg e, if_neg (by simpa [Value.isStr] using e)]
      exact ⟨⟨t', rfl⟩, hh, r, FldRep.putL ra h⟩
  | [], _ :: _, h => h.elim
  | _ :: _, [], h => h.elim
theorem FldRep.length : ∀ {l : List (Str × AV)} {es : List DictEntry}, FldRep G φ im l es → es.length = l.length
  | [], [], _ => rfl
  | _ :: _, _ :: _, h => by rw [List.length_cons, List.length_cons, FldRep.length h.2.2.2]
  | [], _ :: _, h => h.elim
  | _ :: _, [], h => h.elim
theorem putL_length {x : Str} {hsh : Int} {k v : Value} : ∀ es : List DictEntry, (W.putL x hsh k v es).length ≤ es.length + 1
  | [] => Nat.le_refl _
  | e :: r => by
    unfold W.putL
    split
    · simp
    · simp only [List.length_cons]; have := putL_length (x := x) (hsh := hsh) (k := k) (v := v) r; omega
theorem KvRep.length : ∀ {l : List (Str × AV)} {es : List (Str × Value)}, KvRep G φ im l es → es.length = l.length
  | [], [], _ => rfl
  | _ :: _, _ :: _, h => by rw [List.length_cons, List.length_cons, KvRep.length h.2.2]
  | [], _ :: _, h => h.elim
  | _ :: _, [], h => h.elim
theorem map_noKey {x : Str} {v : Value} : ∀ {es : List (Str × Value)}, x ∉ es.map (·.1) → es.map (fun kv => if kv.1 = x then (kv.1, v) else kv) = es
  | [], _ => rfl
  | e :: r, h => by
    simp only [List.map_cons, List.mem_cons, not_or] at h
    rw [List.map_cons, map_noKey h.2, if_neg (fun q => h.1 q.symm)]
theorem KvRep.stored {x : Str} {a : AV} {v : Value} (ra : Rep G φ im a v) : ∀ {l : List (Str × AV)} {es : List (Str × Value)}, (es.map (·.1)).Nodup → KvRep G φ im l es → KvRep G φ im (putF x a l) (PySem.stored es x v)
  | [], [], _, _ => ⟨rfl, ra, trivial⟩
  | (y, u) :: l, (z, w) :: es, nd, h => by
    obtain ⟨rfl, r, h⟩ := h
    rw [List.map_cons, List.nodup_cons] at nd
    have ih := KvRep.stored (x := x) ra nd.2 h
    unfold putF
    unfold PySem.stored at *
    by_cases e : z = x
    · subst e
      rw [if_pos rfl]
      simp only [List.any_cons, decide_true, Bool.true_or, if_true, List.map_cons]
      rw [map_noKey nd.1]
      exact ⟨rfl, ra, h⟩
    · rw [if_neg e]
      simp only [List.any_cons, decide_eq_false e, Bool.false_or, List.map_cons, if_neg e]
      split
      · rename_i hk
        rw [if_pos hk] at ih
        exact ⟨rfl, r, ih⟩
      · rename_i hk
        rw [if_neg hk] at ih
        exact ⟨rfl, r, ih⟩
  | [], _ :: _, _, h => h.elim
  | _ :: _, [], _, h => h.elim
end fields

section rules
variable {G : Gd} {C : Act} {ρ : LEnv} {m : Str → Option Value} {P : Pre} {n : Nat}

theorem SS.alloc1 {σ : AHeap} {φ : Ids} {mt im fr : Ledger} {h h' : Heap} (st : SS G C ρ σ φ mt im fr m h) {a : Addr} {o : Obj} {oa : AObj} (F : Fr G.hb C.env.locals h' m) (N : News G.hb C.env.locals h' ((a, o) :: (mt ++ (im ++ fr))))
    (ha : h.objs.size ≤ a) (ob : ObjAt G (φ ++ [(a, a)]) im ((a, o) :: mt) (a, a) oa) : SS G C ρ (σ ++ [oa]) (φ ++ [(a, a)]) ((a, o) :: mt) im fr m h' :=
  st.alloc (ns := [(a, o)]) (p := (a, a)) F N (fun q hq => by rw [List.mem_singleton.mp hq]; exact ha) (by simp) ⟨ha, ha⟩ ob

theorem repL_more {φ : Ids} {im : Ledger} {l : List AV} {vs : List Value} (r : RepL G φ im l vs) (p : Addr × Addr) : RepL G (φ ++ [p]) im l vs := RepL.mono G (List.prefix_append ..) (fun _ h _ => h) r

theorem newListObj_sm {vs : List Value} {l : List AV} {mu : Nat} (hl : ∀ φ im, P φ im → RepL G φ im l vs) (hz : l.length ≤ sizeCap) : Sm G C ρ m P (Rep G) (newList vs) (match mu with
      | 0 => pure (.lst l)
      | 1 => do
        let i ← allocM (.list l)
        return .obj i
      | _ => do
        let i ← allocM (.arr l)
        return .obj i : M AV) := by
  match mu with
  | 0 => exact newList_sm hl hz
  | 1 =>
    intro σ φ mt im fr s Q E hp st hs
    have r := hl _ _ hp
    refine newList_N st.F st.N (fun h' F' N' => ?_) (by rw [r.length, sizeLine_eq]; unfold sizeCap at hz; omega)
    exact hs _ _ im fr h' s.toks _ (Ext.alloc (s.heap.objs.size, s.heap.objs.size)) (st.alloc1 F' N' (Nat.le_refl _) ⟨rfl, vs, 0, .head _, repL_more r _⟩) (rep_obj_new st.hp.len)
  | _ + 2 =>
    intro σ φ mt im fr s Q E hp st hs
    have r := hl _ _ hp
    refine newList_N st.F st.N (fun h' F' N' => ?_) (by rw [r.length, sizeLine_eq]; unfold sizeCap at hz; omega)
    exact hs _ _ im fr h' s.toks _ (Ext.alloc (s.heap.objs.size, s.heap.objs.size)) (st.alloc1 F' N' (Nat.le_refl _) ⟨rfl, _, vs, 0, .head _, rfl, rfl, repL_more r _⟩) (rep_obj_new st.hp.len)
theorem newTupleObj_sm {vs : List Value} {l : List AV} {b : Prop} [Decidable b] (hl : ∀ φ im, P φ im → RepL G φ im l vs) (hz : l.length ≤ sizeCap) : Sm G C ρ m P (Rep G) (newTuple vs) (if b then do
        let i ← allocM (.tup l)
        return .obj i
      else pure (.tup l) : M AV) := by
  by_cases hb : b
  · rw [if_pos hb]
    intro σ φ mt im fr s Q E hp st hs
    have r := hl _ _ hp
    refine newTuple_N st.F st.N (fun h' F' N' => ?_) (by rw [r.length, sizeLine_eq]; unfold sizeCap at hz; omega)
    exact hs _ _ im fr h' s.toks _ (Ext.alloc (s.heap.objs.size, s.heap.objs.size)) (st.alloc1 F' N' (Nat.le_refl _) ⟨rfl, vs, 0, .head _, repL_more r _⟩) (rep_obj_new st.hp.len)
  · rw [if_neg hb]; exact newTuple_sm hl hz
theorem sm_Dict {pos : Pos} : Sm G C ρ m P (Rep G) (eval (.Dict [] [] pos) C.env) (do
    let i ← allocM (.dict [])
    return .obj i) := by
  intro σ φ mt im fr s Q E hp st hs
  refine wpAny_Dict_empty ?_
  obtain ⟨o, ho, hd⟩ := Heap.dictOf_iff.mp (Heap.DictOf.new (knd := PySem.strKind G.prog G.w) s.heap)
  rw [Heap.get?_push_size _ rfl] at ho
  have ho := Option.some.inj ho
  subst ho
  exact hs _ _ im fr _ s.toks _ (Ext.alloc (s.heap.objs.size, s.heap.objs.size)) (st.alloc1 (st.F.push _) (News.push st.F st.N _) (Nat.le_refl _) ⟨rfl, _, [], .head _, hd, trivial⟩) (rep_obj_new st.hp.len)

theorem setObj_in {σ : AHeap} {i : Nat} {o : AObj} (h : i < σ.length) : setObj i o σ = Res.ok () (σ.set i o) := by
  unfold setObj; rw [if_pos h]
theorem handed_rep {φ im} {a : AV} {v : Value} (r : Rep G φ im a v) (h : isTop a = false) : handedIn v = true := by
  induction a using AV.casesOn with
  | top u => exact (no_tf h).elim
  | none => unfold Rep at r; subst r; rfl
  | bool b => unfold Rep at r; subst r; rfl
  | int b => unfold Rep at r; obtain ⟨t, rfl⟩ := r; rfl
  | str b => unfold Rep at r; obtain ⟨t, rfl⟩ := r; rfl
  | tup b => unfold Rep at r; obtain ⟨t, _, _, rfl, _⟩ := r; rfl
  | lst b => unfold Rep at r; obtain ⟨t, _, _, rfl, _⟩ := r; rfl
  | obj b => unfold Rep at r; obtain ⟨t, _, rfl⟩ := r; rfl
  | unk => unfold Rep at r; obtain ⟨t, rfl⟩ := r; rfl
  | src b => unfold Rep at r; obtain ⟨t, _, rfl, _⟩ := r; rfl

theorem sm_getF (ok : G.Ok) {a : AV} {va : Value} {x : Str} {b : Bool} (ha : ∀ φ im, P φ im → Rep G φ im a va) : Sm G C ρ m P (Rep G) (getAttr va x b) (getF G.tb.fieldOk a x) := by
  intro σ φ mt im fr s Q E hp st hs
  have hra := ha _ _ hp
  unfold getF at hs
  split at hs
  · rename_i i
    obtain ⟨o, e, hs⟩ := getObj_out (K := Sp G C ρ m (Rep G) φ im fr Q E s) (fun x => x) hs
    induction o using AObj.casesOn with
    | inst c l =>
      obtain ⟨p, _, rfl, ob⟩ := st.objAt e hra
      dsimp only at hs
      by_cases hf : G.tb.fieldOk c x = true
      · rw [if_pos hf] at hs
        have f := ok.field c x hf
        obtain ⟨_, es, nn, h1, h2, fl⟩ := ob
        have g := fl.getL (x := x)
        induction e : l.lookup x using Option.casesOn with
        | none => rw [e] at hs; exact hs.elim
        | some av =>
          rw [e] at hs g
          dsimp only at hs g
          obtain ⟨v, gl, rv⟩ := g
          by_cases ht : isTop av = true
          · rw [if_pos ht] at hs; exact hs.elim
          · rw [if_neg ht] at hs
            obtain ⟨attr, fa, na⟩ := f.get
            have I := InstAt.of_news st.N (List.mem_append.mpr (.inl h1)) (List.mem_append.mpr (.inl h2))
            exact get_own st.F ok.X I f.plain f.dict fa na gl (handed_rep rv (by simpa using ht)) (Sp.okOut (tk := s.toks + 1) hs st rv)
      · rw [if_neg hf] at hs; exact hs.elim
    | _ => exact hs.elim
  · exact hs.elim

theorem sm_setF (ok : G.Ok) {a b : AV} {va vb : Value} {x : Str} (ha : ∀ φ im, P φ im → Rep G φ im a va) (hb : ∀ φ im, P φ im → Rep G φ im b vb) : Sm G C ρ m P (fun _ _ _ _ => True) (setAttr va x vb) (setF G.tb.fieldOk a x b) := by
  intro σ φ mt im fr s Q E hp st hs
  have hra := ha _ _ hp
  have hrb := hb _ _ hp
  unfold setF at hs
  split at hs
  · rename_i i
    obtain ⟨o, e, hs⟩ := getObj_out (K := Sp G C ρ m (fun _ _ _ _ => True) φ im fr Q E s) (fun x => x) hs
    induction o using AObj.casesOn with
    | inst c l =>
      obtain ⟨p, ep, rfl, ob⟩ := st.objAt e hra
      dsimp only at hs
      by_cases hf : (G.tb.fieldOk c x && decide (l.length < sizeCap)) = true
      · rw [if_pos hf] at hs
        rw [Bool.and_eq_true, decide_eq_true_eq] at hf
        have f := ok.field c x hf.1
        obtain ⟨hne, es, nn, h1, h2, fl⟩ := ob
        have g := fl.getL (x := x)
        have gl : (W.getL x es).isSome = true := by
          induction e : l.lookup x using Option.casesOn with
          | none => rw [e] at g; dsimp only at g; rw [g]; rfl
          | some av => rw [e] at g; obtain ⟨v, gl, _⟩ := g; rw [gl]; rfl
        have I := InstAt.of_news st.N (List.mem_append.mpr (.inl h1)) (List.mem_append.mpr (.inl h2))
        have hil : i < σ.length := by rw [← st.hp.len]; exact (List.getElem?_eq_some_iff.mp ep).1
        unfold setObj at hs
        rw [if_pos hil] at hs
        have hlen : (W.putL x (PyData.keyHash G.w.params x) (.str x (s.toks + 1)) vb es).length ≤ 1000 := by
          have := putL_length (x := x) (hsh := PyData.keyHash G.w.params x) (k := .str x (s.toks + 1)) (v := vb) es
          rw [fl.length] at this
          have := hf.2
          unfold sizeCap at this
          omega
        refine set_dict st.F ok.X st.N I rfl f.setattr f.over f.taker f.dict gl rfl (upd_putAt st.nd h2 (fun q hq e => st.sep _ h2 q hq e.symm)) hlen fun h' F' N' => ?_
        refine hs φ _ im fr h' (s.toks + 2) () (Ext.refl ..) (st.setMt h2 ep (.inr rfl) F' N' ⟨hne, _, _, putAt_other h1 hne, putAt_self h2, FldRep.putL hrb fl⟩) trivial
      · rw [if_neg hf] at hs; exact hs.elim
    | _ => exact hs.elim
  · exact hs.elim

theorem sm_setItem {a b c : AV} {va vb vc : Value} (ha : ∀ φ im, P φ im → Rep G φ im a va) (hb : ∀ φ im, P φ im → Rep G φ im b vb) (hc : ∀ φ im, P φ im → Rep G φ im c vc) :
    Sm G C ρ m P (fun _ _ _ _ => True) (setItem va vb vc) (setItemM a b c) := by
  intro σ φ mt im fr s Q E hp st hs
  have hra := ha _ _ hp
  have hrb := hb _ _ hp
  have hrc := hc _ _ hp
  obtain ⟨i, e, hs1⟩ := on_obj (K := Sp G C ρ m (fun _ _ _ _ => True) φ im fr Q E s) (fun x => x) hs
  clear hs
  subst e
  obtain ⟨o, e, hs⟩ := getObj_out (K := Sp G C ρ m (fun _ _ _ _ => True) φ im fr Q E s) (fun x => x) hs1
  clear hs1
  obtain ⟨p, ep, rfl, ob⟩ := st.objAt e hra
  have hil : i < σ.length := by rw [← st.hp.len]; exact (List.getElem?_eq_some_iff.mp ep).1
  clear hra ha hb hc
  induction o using AObj.casesOn with
  | arr l =>
    obtain ⟨j, e', hs1⟩ := on_int (K := Sp G C ρ m (fun _ _ _ _ => True) φ im fr Q E s) (fun x => x) hs
    obtain ⟨⟨h0, h1, h2⟩, hs2⟩ := on_if (K := Sp G C ρ m (fun _ _ _ _ => True) φ im fr Q E s) (fun x => x) hs1
    clear hs hs1
    subst e'
    obtain ⟨t, rfl⟩ : ∃ t, vb = .int j t := by unfold Rep at hrb; exact hrb
    obtain ⟨e2, od, vs, nn, hm, hcl, hd, rl⟩ := ob
    rw [setObj_in hil] at hs2
    unfold sizeCap at h2
    refine wpAny_setItem_list (items := vs.toArray) ⟨od, st.mtIn hm, hcl, nn, hd⟩ h0 (by omega) (by rw [List.size_toArray, rl.length]; exact h1) fun h' hl hsame => ?_
    obtain ⟨o', ho', hc', nn', hd'⟩ := hl
    obtain ⟨F', N'⟩ := st.changed hm hsame ho'
    refine hs2 φ _ im fr h' s.toks () (Ext.refl ..) (st.setMt hm ep (.inl rfl) F' N' ⟨e2, o', vs.set j.toNat vc, nn', putAt_self hm, hc', by rw [hd']; simp, rl.set _ hrc⟩) trivial
  | dict l =>
    obtain ⟨x, e', hs1⟩ := on_str (K := Sp G C ρ m (fun _ _ _ _ => True) φ im fr Q E s) (fun x => x) hs
    obtain ⟨hk, hs2⟩ := on_if (K := Sp G C ρ m (fun _ _ _ _ => True) φ im fr Q E s) (fun x => x) hs1
    clear hs hs1
    subst e'
    obtain ⟨t, rfl⟩ : ∃ t, vb = .str x t := by unfold Rep at hrb; exact hrb
    obtain ⟨e2, od, kvs, hm, hd, rk⟩ := ob
    rw [setObj_in hil] at hs2
    unfold sizeCap at hk
    refine wpAny_setItem_pairs (knd := PySem.strKind G.prog G.w) (k := x) (kvs := kvs) (by simp [PySem.strKind, Value.isStrOf]) (Heap.dictOf_iff.mpr ⟨od, st.mtIn hm, hd⟩) (fun h' hmm hsame => ?_) (by rw [rk.length, sizeLine_eq]; omega)
    obtain ⟨o', ho', hd'⟩ := Heap.dictOf_iff.mp hmm
    obtain ⟨F', N'⟩ := st.changed hm hsame ho'
    have nd : (kvs.map (·.1)).Nodup := by obtain ⟨_, _, _, _, _, _, nd⟩ := hd; exact nd
    refine hs2 φ _ im fr h' (s.toks + 1) () (Ext.refl ..) (st.setMt hm ep (.inl rfl) F' N' ⟨e2, o', _, putAt_self hm, hd', KvRep.stored hrc nd rk⟩) trivial
  | _ => exact hs.elim
end rules
end Mine
end
section
namespace Mine
open PySem PySem.W PySem.Calls PyProof.Rows

section rules
variable {G : Gd} {C : Act} {ρ : LEnv} {m : Str → Option Value} {P : Pre} {n : Nat}

theorem args_plain {env : Env} {pos : Pos} : ∀ {es : List Expr}, es.all okE = true → (backTo pos (starEach es env)).any (·.1) = false
  | [], _ => rfl
  | e :: r, h => by
    rw [List.all_cons, Bool.and_eq_true] at h
    rw [starEach_ok h.1]
    show (false || (backTo pos (starEach r env)).any (·.1)) = false
    rw [args_plain h.2]; rfl

theorem sm_evalArgs {f : Value} {ev : Expr → LEnv → M AV} (hf : ESim G n ev) (hC : C.Ok n) (hP : Stable P) {es : List Expr} {pos : Pos} (hes : es.all okE = true) :
    Sm G C ρ m P (fun φ im l (a : Args) => a.kw = [] ∧ RepL G φ im l a.pos) (evalArgs f true (backTo pos (starEach es C.env)) []) (evList ev ρ es) := by
  induction es using List.casesOn with
  | nil =>
    intro σ φ mt im fr s Q E hp st hs
    exact evalArgs_nil3 (hs φ mt im fr s.heap s.toks ⟨[], []⟩ (Ext.refl ..) st ⟨rfl, RepL.nil⟩)
  | cons e r =>
    intro σ φ mt im fr s Q E hp st hs
    have h := hes
    rw [List.all_cons, Bool.and_eq_true] at h
    have it := sm_items hf hC pos (e :: r) P hP (ρ := ρ) (m := m)
    rw [starEach_ok h.1] at it ⊢
    refine evalArgs_plain (it σ φ mt im fr s _ E hp st ?_)
    induction e : evList ev ρ (_ :: r) σ using Res.casesOn with
    | ok l σ' => rw [e] at hs; exact fun φ' mt' im' fr' h' tk' vs x st' rl => hs φ' mt' im' fr' h' tk' ⟨vs, []⟩ x st' ⟨rfl, rl⟩
    | exn σ' => rw [e] at hs; exact hs
    | fail => rw [e] at hs; exact hs

theorem sm_callWith {ev : Expr → LEnv → M AV} (hf : ESim G n ev) (hC : C.Ok n) (hP : Stable P) {f : Value} {first : List Value} {es : List Expr} {p pos : Pos} {k : List AV → M AV} (hes : es.all okE = true)
    (hk : ∀ h, G.hb.StaysIn h → ∃ kk, (kk = Keeper.frame ∨ kk = Keeper.machine ∨ kk = Keeper.boundFrame) ∧ Looks (model G.prog G.w) h (keeperOf f) kk)
    (hcall : ∀ l vs, Sm G C ρ m (fun φ im => P φ im ∧ RepL G φ im l vs) (Rep G) (call f (first ++ vs)) (k l)) :
    Sm G C ρ m P (Rep G) (callWith p f first (backTo pos (starEach es C.env)) []) (evList ev ρ es >>= k) := by
  intro σ φ mt im fr s Q E hp st hs
  refine callWith_of (P := fun h => G.hb.StaysIn h) (by rw [args_plain hes]; rfl) hk (sm_evalArgs hf hC hP hes σ φ mt im fr s _ E hp st ?_)
  change Sp G C ρ m (Rep G) φ im fr Q E s ((evList ev ρ es σ).bind k) at hs
  induction e : evList ev ρ es σ using Res.casesOn with
  | ok l σ' =>
    rw [e] at hs
    rintro φ' mt' im' fr' h' tk' ⟨vs, kw⟩ x st' ⟨rfl, rl⟩
    exact ⟨st'.F.keep, hcall l vs σ' φ' mt' im' fr' { s with heap := h', toks := tk' } Q E ⟨hP _ _ _ _ _ _ x hp, rl⟩ st' (Sp.step hs x h' tk')⟩
  | exn σ' => rw [e] at hs; exact hs
  | fail => rw [e] at hs; exact hs

noncomputable def CSim (G : Gd) (n : Nat) (c : Callee) : Prop := ∀ C ρ m a l vs, Act.Ok C n → Sm G C ρ m (fun φ im => RepL G φ im l vs) (Rep G) (call (.ref a) vs) (c a l)

theorem keep_machine {M : Model} {h : Heap} {f : Value} (hf : ∀ a, f ≠ .ref a) : ∃ kk, (kk = Keeper.frame ∨ kk = Keeper.machine ∨ kk = Keeper.boundFrame) ∧ Looks M h (keeperOf f) kk := by
  refine ⟨.machine, .inr (.inl rfl), ?_⟩
  cases f <;> first | exact Looks.now | exact absurd rfl (hf _)

theorem goodF_keep (ok : G.Ok) {fa : AV} {fv : Value} (hg : goodF G.tb.isCallee fa = true) {φ im} (r : Rep G φ im fa fv) : ∀ h, G.hb.StaysIn h → ∃ kk, (kk = Keeper.frame ∨ kk = Keeper.machine ∨ kk = Keeper.boundFrame) ∧ Looks (model G.prog G.w) h (keeperOf fv) kk := by
  intro h st
  induction fa using AV.casesOn with
  | top u =>
    unfold Rep at r
    subst r
    induction fv using PySem.Value.casesOn with
    | ref a => exact keeps_K (ok.callee a hg) h (ok.X.keeps st)
    | builtin _ => exact keep_machine fun a e => by cases e
    | type _ => exact keep_machine fun a e => by cases e
    | _ => exact (no_ft hg).elim
  | _ => exact (no_ft hg).elim

theorem one_of {φ im} {a : AV} {vs : List Value} (r : RepL G φ im [a] vs) : ∃ v, vs = [v] ∧ Rep G φ im a v := by
  match vs, r with
  | [], r => unfold RepL at r; exact r.elim
  | [v], r => unfold RepL at r; exact ⟨v, rfl, r.1⟩
  | _ :: _ :: _, r => unfold RepL RepL at r; exact r.2.elim
theorem two_of {φ im} {a b : AV} {vs : List Value} (r : RepL G φ im [a, b] vs) : ∃ v u, vs = [v, u] ∧ Rep G φ im a v ∧ Rep G φ im b u := by
  match vs, r with
  | [], r => unfold RepL at r; exact r.elim
  | v :: ws, r =>
    unfold RepL at r
    obtain ⟨u, rfl, ru⟩ := one_of r.2
    exact ⟨v, u, rfl, r.1, ru⟩

theorem sm_len {l : List AV} {vs : List Value} (hC : C.Ok n) (hl : ∀ φ im, P φ im → RepL G φ im l vs) : Sm G C ρ m P (Rep G) (call (.builtin "len") vs) (on1 l fun v => do return .int ((← toSeq v).length : Int)) := by
  intro σ φ mt im fr s Q E hp st hs
  have hrl := hl _ _ hp
  obtain ⟨a, rfl, hs1⟩ := on1_out (K := Sp G C ρ m (Rep G) φ im fr Q E s) (fun x => x) hs
  obtain ⟨v, rfl, r⟩ := one_of hrl
  clear hs hrl hl
  obtain ⟨its, sa, hs⟩ := seq_of st r (K := Sp G C ρ m (Rep G) φ im fr Q E s) (fun x => x) hs1
  obtain ⟨x, vs, rfl, rl, hlen, hx⟩ := sa.out
  unfold sizeCap at hlen
  have fin : Q (.int (vs.toArray.size : Nat) (s.toks + 1)) { s with toks := s.toks + 1 + 1 } := by
    rw [List.size_toArray, rl.length]
    exact Sp.okOut (tk := s.toks + 1 + 1) hs st (rep_int _ _)
  have hz : (vs.toArray.size : Int) < 2 ^ 63 := by rw [List.size_toArray, rl.length]; omega
  rcases hx with ⟨_, hx⟩ | ⟨_, hx⟩
  · exact len_list hx hz fin
  · exact len_tuple hx hz fin
theorem sm_two {f : Value} {l : List AV} {vs : List Value} {k : Int → Int → Int} (hl : ∀ φ im, P φ im → RepL G φ im l vs)
    (h : ∀ {σ φ mt im fr} {s : Shared} {Q : Value → Shared → Prop} {E : Value → Shared → Prop} (i j : Int) (t t' : Tok), SS G C ρ σ φ mt im fr m s.heap → (∀ h' tk tk', SS G C ρ σ φ mt im fr m h' → Q (.int (k i j) tk) { s with heap := h', toks := tk' }) → wpAny (model G.prog G.w) C.A (call f [.int i t, .int j t']) Q E s) :
    Sm G C ρ m P (Rep G) (call f vs) (on2 l fun a b => int2 a b fun i j => pure (.int (k i j))) := by
  intro σ φ mt im fr s Q E hp st hs
  have hrl := hl _ _ hp
  obtain ⟨a, b, rfl, hs1⟩ := on2_out (K := Sp G C ρ m (Rep G) φ im fr Q E s) (fun x => x) hs
  obtain ⟨v, u, rfl, r, r'⟩ := two_of hrl
  obtain ⟨i, e, hs2⟩ := on_int (K := Sp G C ρ m (Rep G) φ im fr Q E s) (fun x => x) hs1
  obtain ⟨j, e', hs3⟩ := on_int (K := Sp G C ρ m (Rep G) φ im fr Q E s) (fun x => x) hs2
  clear hs hs1 hs2 hrl hl
  subst e e'
  obtain ⟨t, rfl⟩ : ∃ t, v = .int i t := by unfold Rep at r; exact r
  obtain ⟨t', rfl⟩ : ∃ t, u = .int j t := by unfold Rep at r'; exact r'
  exact h i j t t' st fun h' tk tk' st' => hs3 φ mt im fr h' _ _ (Ext.refl ..) st' (rep_int _ _)
theorem sm_callB (hC : C.Ok n) {x : String} {l : List AV} {vs : List Value} (hl : ∀ φ im, P φ im → RepL G φ im l vs) : Sm G C ρ m P (Rep G) (call (.builtin x) vs) (callB x l) := by
  unfold callB
  by_cases e : x = "len"
  · subst e
    rw [if_pos rfl]
    exact sm_len hC hl
  rw [if_neg e]
  clear e
  by_cases e : x = "abs"
  · subst e
    rw [if_pos rfl]
    intro σ φ mt im fr s Q E hp st hs
    have hrl := hl _ _ hp
    obtain ⟨a, rfl, hs1⟩ := on1_out (K := Sp G C ρ m (Rep G) φ im fr Q E s) (fun x => x) hs
    obtain ⟨v, rfl, r⟩ := one_of hrl
    obtain ⟨i, e, hs2⟩ := on_int (K := Sp G C ρ m (Rep G) φ im fr Q E s) (fun x => x) hs1
    clear hs hs1 hrl hl
    subst e
    obtain ⟨t, rfl⟩ : ∃ t, v = .int i t := by unfold Rep at r; exact r
    refine call_abs_int fun u tk => ?_
    have e : (if i < 0 then -i else i) = (i.natAbs : Int) := by split <;> omega
    rw [e]
    exact Sp.okOut (tk := tk) hs2 st (rep_int _ _)
  rw [if_neg e]
  clear e
  by_cases e : x = "max"
  · subst e
    rw [if_pos rfl]
    refine sm_two hl fun i j t t' st fin => max_two_N hC.hd st.F st.N fun h' tk F' N' => ?_
    rw [show (if j > i then j else i) = max i j by split <;> omega]
    exact fin h' _ tk (st.same F' N')
  rw [if_neg e]
  clear e
  by_cases e : x = "min"
  · subst e
    rw [if_pos rfl]
    refine sm_two hl fun i j t t' st fin => min_two_N hC.hd st.F st.N fun h' tk F' N' => ?_
    rw [show (if j < i then j else i) = min i j by split <;> omega]
    exact fin h' _ tk (st.same F' N')
  rw [if_neg e]
  exact Sm.fail
theorem sm_tuple {l : List AV} {vs : List Value} (hl : ∀ φ im, P φ im → RepL G φ im l vs) : Sm G C ρ m P (Rep G) (call (.type "tuple") vs) (on1 l fun v => match v.tup? with
    | some l => if l.length ≤ sizeCap then pure (.tup l) else failM
    | Option.none => if isList v then do return .tup (← toSeq v) else failM) := by
  intro σ φ mt im fr s Q E hp st hs
  have hrl := hl _ _ hp
  obtain ⟨a, rfl, hs1⟩ := on1_out (K := Sp G C ρ m (Rep G) φ im fr Q E s) (fun x => x) hs
  obtain ⟨v, rfl, r⟩ := one_of hrl
  clear hs hrl hl
  induction e : a.tup? using Option.casesOn with
  | some its =>
    rw [e] at hs1
    cases AV.tup?_some e
    obtain ⟨_, hs⟩ := on_if (K := Sp G C ρ m (Rep G) φ im fr Q E s) (fun x => x) hs1
    clear hs1
    have r' := r
    unfold Rep at r
    obtain ⟨a, ws, n', rfl, hm, rl⟩ := r
    exact call_tuple_tup ⟨_, st.imIn hm, rfl, _, rfl⟩ (Sp.okOut (tk := s.toks) hs st r')
  | none =>
    rw [e] at hs1
    obtain ⟨hil, hs⟩ := on_if (K := Sp G C ρ m (Rep G) φ im fr Q E s) (fun x => x) hs1
    clear hs1
    obtain ⟨its, sa, hs⟩ := seq_of st r (K := Sp G C ρ m (Rep G) φ im fr Q E s) (fun x => x) hs
    obtain ⟨x, vs, rfl, rl, hlen, hx⟩ := sa.out
    have hx : s.heap.IsList x vs.toArray := by rcases hx with ⟨_, hx⟩ | ⟨e, _⟩; exact hx; exact (notTup hil e).elim
    unfold sizeCap at hlen
    refine call_tuple_list hx (fun h' hk => ?_) (by rw [List.size_toArray, rl.length, sizeLine_eq]; omega)
    have st' := st.keeps (h' := h') hk
    refine hs φ mt _ fr _ s.toks _ (Ext.addIm _) (st'.addIm (o := tupOf vs 0) (st'.F.push _) (News.push st'.F st'.N _) (Nat.le_refl _) ⟨fun es n e => (by cases e), fun v e => (by cases e)⟩) ?_
    unfold Rep
    exact ⟨_, vs, 0, rfl, .head _, rl.ext (Ext.addIm (fr := fr) _)⟩
theorem sm_list {l : List AV} {vs : List Value} (hl : ∀ φ im, P φ im → RepL G φ im l vs) : Sm G C ρ m P (Rep G) (call (.type "list") vs) (on1 l fun v => do return .lst (← toSeq v)) := by
  intro σ φ mt im fr s Q E hp st hs
  have hrl := hl _ _ hp
  obtain ⟨a, rfl, hs1⟩ := on1_out (K := Sp G C ρ m (Rep G) φ im fr Q E s) (fun x => x) hs
  obtain ⟨v, rfl, r⟩ := one_of hrl
  clear hs hrl hl
  obtain ⟨its, sa, hs⟩ := seq_of st r (K := Sp G C ρ m (Rep G) φ im fr Q E s) (fun x => x) hs1
  obtain ⟨x, vs, rfl, rl, hlen, hx⟩ := sa.out
  clear hs1 r sa
  unfold sizeCap at hlen
  have hz : vs.toArray.size ≤ sizeLine := by rw [List.size_toArray, rl.length, sizeLine_eq]; omega
  have fin : ∀ (D : Addr) (cc : Nat) (h' : Heap), Fr G.hb C.env.locals h' m → News G.hb C.env.locals h' ((D, W.listOf vs.toArray cc) :: (mt ++ (im ++ fr))) → (∀ q ∈ (mt ++ (im ++ fr)), q.1 < D) → Q (.ref D) { s with heap := h' } := fun D cc h' F' N' lt => by
    have st2 : SS G C ρ σ φ mt ((D, W.listOf vs.toArray cc) :: im) fr m h' :=
      st.addIm' F' N' (fun p hp => Nat.ne_of_lt (lt p hp)) ⟨fun es n e => (by cases e), fun v e => (by cases e)⟩
    refine hs φ mt _ fr _ s.toks _ (Ext.addIm _) st2 ?_
    unfold Rep
    exact ⟨_, vs, cc, rfl, .head _, rl.ext (Ext.addIm (fr := fr) _)⟩
  rcases hx with ⟨_, hx⟩ | ⟨_, hx⟩
  · exact list_copyK st.F st.N hx fin hz
  · exact list_copyKT st.F st.N hx fin hz
theorem sm_callY {x : String} {l : List AV} {vs : List Value} (hl : ∀ φ im, P φ im → RepL G φ im l vs) : Sm G C ρ m P (Rep G) (call (.type x) vs) (callY x l) := by
  unfold callY
  by_cases e : x = "tuple"
  · subst e
    rw [if_pos rfl]
    exact sm_tuple hl
  rw [if_neg e]
  clear e
  by_cases e : x = "list"
  · subst e
    rw [if_pos rfl]
    exact sm_list hl
  rw [if_neg e]
  clear e
  by_cases e : x = "str"
  · subst e
    rw [if_pos rfl]
    intro σ φ mt im fr s Q E hp st hs
    have hrl := hl _ _ hp
    obtain ⟨a, rfl, hs1⟩ := on1_out (K := Sp G C ρ m (Rep G) φ im fr Q E s) (fun x => x) hs
    obtain ⟨v, rfl, r⟩ := one_of hrl
    obtain ⟨i, e, hs2⟩ := on_int (K := Sp G C ρ m (Rep G) φ im fr Q E s) (fun x => x) hs1
    clear hs hs1 hrl hl
    subst e
    obtain ⟨t, rfl⟩ : ∃ t, v = .int i t := by unfold Rep at r; exact r
    obtain ⟨hi, hs⟩ := on_if (K := Sp G C ρ m (Rep G) φ im fr Q E s) (fun x => x) hs2
    refine PySem.P.str_of_int ?_ (Sp.okOut (tk := s.toks + 1) hs st (rep_str _ _))
    have := Nat.log2_le_self i.natAbs
    omega
  rw [if_neg e]
  exact Sm.fail
theorem sm_callM (hC : C.Ok n) {c : Callee} (hc : CSim G n c) {fa : AV} {fv : Value} {l : List AV} {vs : List Value} (hfa : ∀ φ im, P φ im → Rep G φ im fa fv) (hl : ∀ φ im, P φ im → RepL G φ im l vs) :
    Sm G C ρ m P (Rep G) (call fv vs) (callM c fa l) := by
  intro σ φ mt im fr s Q E hp st hs
  induction fa using AV.casesOn with
  | top u =>
    obtain rfl : fv = u := by have := hfa _ _ hp; unfold Rep at this; exact this
    induction fv using PySem.Value.casesOn with
    | ref a => exact (hc C ρ m _ l vs hC) σ φ mt im fr s Q E (hl _ _ hp) st hs
    | builtin x => exact sm_callB hC hl σ φ mt im fr s Q E hp st hs
    | type x => exact sm_callY hl σ φ mt im fr s Q E hp st hs
    | _ => exact hs.elim
  | _ => exact hs.elim
end rules
end Mine
end
section
namespace Mine
open PySem PySem.W PySem.Calls PyProof.Rows

theorem strs_are {G : Gd} {φ : Ids} {im : Ledger} : ∀ {l : List AV} {ns : List Str} {vs : List Value}, strsOf l = some ns → RepL G φ im l vs → StrsAre vs ns
  | [], ns, [], e, _ => by simp only [strsOf, Option.some.injEq] at e; subst e; exact .nil
  | .str x :: l, ns, v :: vs, e, r => by
    unfold strsOf at e
    induction e1 : strsOf l using Option.casesOn with
    | none => rw [e1] at e; simp at e
    | some xs =>
      rw [e1] at e
      simp only [Option.some.injEq] at e
      subst e
      unfold RepL at r
      have r1 := r.1
      unfold Rep at r1
      obtain ⟨t, rfl⟩ := r1
      exact .cons _ _ (strs_are e1 r.2)
  | [], _, _ :: _, _, r => by unfold RepL at r; exact r.elim
  | _ :: _, _, [], _, r => by unfold RepL at r; exact r.elim
  | .none :: _, _, _ :: _, e, _ => by simp [strsOf] at e
  | .bool _ :: _, _, _ :: _, e, _ => by simp [strsOf] at e
  | .int _ :: _, _, _ :: _, e, _ => by simp [strsOf] at e
  | .tup _ :: _, _, _ :: _, e, _ => by simp [strsOf] at e
  | .lst _ :: _, _, _ :: _, e, _ => by simp [strsOf] at e
  | .obj _ :: _, _, _ :: _, e, _ => by simp [strsOf] at e
  | .top _ :: _, _, _ :: _, e, _ => by simp [strsOf] at e
  | .unk :: _, _, _ :: _, e, _ => by simp [strsOf] at e
  | .src _ :: _, _, _ :: _, e, _ => by simp [strsOf] at e

section rules
variable {G : Gd} {C : Act} {ρ : LEnv} {m : Str → Option Value} {P : Pre} {n : Nat}

theorem Sm.operate {R : VRel AV Value} {t : Sem Value} {ma : M AV} {vs : List Value} (h : Sm G C ρ m P R t ma) : Sm G C ρ m P R (operate vs t) ma :=
  fun σ φ mt im fr s Q E hp st hs => wpAny_operating (h σ φ mt im fr s Q E hp st hs)
theorem Sm.release {α β : Type} {R : VRel α β} {t : Sem β} {ma : M α} {vs ks : List Value} (h : Sm G C ρ m P R t ma) : Sm G C ρ m P R (release vs ks >>= fun _ => t) ma :=
  fun σ φ mt im fr s Q E hp st hs => wpAny_bind (wpAny_release (h σ φ mt im fr s Q E hp st hs))
theorem Sm.skip {α β γ : Type} {R : VRel α β} {u : Sem γ} {t : γ → Sem β} {ma : M α} {x : γ} (hu : ∀ (A : Around) (s : Shared) (Q : γ → Shared → Prop) (E : Value → Shared → Prop), Q x s → wpAny (model G.prog G.w) A u Q E s) (h : Sm G C ρ m P R (t x) ma) : Sm G C ρ m P R (u >>= t) ma :=
  fun σ φ mt im fr s Q E hp st hs => wpAny_bind (hu _ _ _ _ (h σ φ mt im fr s Q E hp st hs))
theorem Sm.tail {α β : Type} {R : VRel α β} {t : Sem β} {k : β → Sem β} {ma : M α} (hk : ∀ b (A : Around) (s : Shared) (Q : β → Shared → Prop) (E : Value → Shared → Prop), Q b s → wpAny (model G.prog G.w) A (k b) Q E s) (h : Sm G C ρ m P R t ma) : Sm G C ρ m P R (t >>= k) ma :=
  fun σ φ mt im fr s Q E hp st hs => wpAny_bind (wpAny_mono (h σ φ mt im fr s Q E hp st hs) (fun b s' hq => hk b _ _ _ _ hq) fun _ _ x => x)

theorem stableTup : Stable (fun φ im => P φ im) ↔ Stable P := Iff.rfl

noncomputable def MRel (G : Gd) (o : AV) : VRel MK (Value × List Value) := fun φ im k ff => ∃ v, Rep G φ im o v ∧ ff.2 = [v] ∧ (match k with
  | .append => ff.1 = .builtin "list.append"
  | .extend => ff.1 = .builtin "list.extend"
  | .dget => ff.1 = .builtin "dict.get"
  | .count => ff.1 = .builtin "list.count"
  | .fn f => ff.1 = .ref f ∧ keepIn G.K (.ref f) = true)
theorem MRel.stable {o : AV} {k : MK} {ff : Value × List Value} : Stable (fun φ im => MRel G o φ im k ff) := fun _ _ _ _ _ _ x ⟨v, r, h⟩ => ⟨v, r.ext x, h⟩

theorem sm_methKind (ok : G.Ok) {o : AV} {v : Value} {name : Str} {pl : Sem Bool} (ho : ∀ φ im, P φ im → Rep G φ im o v) : Sm G C ρ m P (MRel G o) (getMethod v name pl) (methKind G.tb.methAt o name) := by
  intro σ φ mt im fr s Q E hp st hs
  have r := ho _ _ hp
  have fin : ∀ {k : MK} {ff : Value × List Value}, Sp G C ρ m (MRel G o) φ im fr Q E s (Res.ok k σ) → MRel G o φ im k ff → Q ff s := fun h x => Sp.okOut (tk := s.toks) h st x
  induction o using AV.casesOn with
  | obj i =>
    obtain ⟨ob, e, hs'⟩ := getObj_out (K := Sp G C ρ m (MRel G _) φ im fr Q E s) (fun x => x) hs
    clear hs
    have hs := hs'
    clear hs'
    obtain ⟨p, ep, rfl, oa⟩ := st.objAt e r
    induction ob using AObj.casesOn with
    | list l =>
      obtain ⟨_, vs, nn, hm, _⟩ := oa
      have hT : s.TypeIs (.ref p.1) "list" := ⟨_, st.mtIn hm, rfl⟩
      have hd : ∀ a, Value.ref p.1 = .ref a → ∃ o, s.heap.get? a = some o ∧ o.dict = none := fun a e => by cases e; exact ⟨_, st.mtIn hm, rfl⟩
      dsimp only at hs
      split at hs
      · rename_i e; subst e
        exact getMethod_builtin hT F.plainAttrs_list F.slot_list_append F.type_list_append hd (fin hs ⟨_, r, rfl, rfl⟩)
      · split at hs
        · rename_i e; subst e
          exact getMethod_builtin hT F.plainAttrs_list F.slot_list_extend F.type_list_extend hd (fin hs ⟨_, r, rfl, rfl⟩)
        · exact hs.elim
    | dict l =>
      obtain ⟨_, o, kvs, hm, hdo, _⟩ := oa
      obtain ⟨es, ep', hx, _⟩ := hdo
      have hT : s.TypeIs (.ref p.1) "dict" := ⟨_, st.mtIn hm, hx.1⟩
      have hd : ∀ a, Value.ref p.1 = .ref a → ∃ o, s.heap.get? a = some o ∧ o.dict = none := fun a e => by cases e; exact ⟨_, st.mtIn hm, hx.2.1⟩
      dsimp only at hs
      split at hs
      · rename_i e; subst e
        exact getMethod_builtin hT F.plainAttrs_dict F.slot_dict_get F.type_dict_get hd (fin hs ⟨_, r, rfl, rfl⟩)
      · exact hs.elim
    | inst c l =>
      obtain ⟨_, es, nn, h1, h2, fl⟩ := oa
      dsimp only at hs
      induction e : G.tb.methAt c name using Option.casesOn with
      | none => rw [e] at hs; exact hs.elim
      | some f =>
        rw [e] at hs
        dsimp only at hs
        split at hs
        · rename_i hno
          have mo := ok.meth c name f e
          have g := fl.getL (x := name)
          have g' : W.getL name es = some none := by
            induction e : l.lookup name using Option.casesOn with
            | none => rw [e] at g; exact g
            | some a => rw [e] at hno; exact (no_ft hno).elim
          have I := InstAt.of_news st.N (List.mem_append.mpr (.inl h1)) (List.mem_append.mpr (.inl h2))
          exact method_inst st.F ok.X I mo.plain mo.find mo.fn g' (fin hs ⟨_, r, rfl, rfl, mo.keep⟩)
        · exact hs.elim
    | _ => exact hs.elim
  | lst l =>
    unfold methKind at hs
    dsimp only at hs
    split at hs
    · rename_i e; subst e
      have r' := r
      unfold Rep at r'
      obtain ⟨a, vs, nn, rfl, hm, _⟩ := r'
      have hT : s.TypeIs (.ref a) "list" := ⟨_, st.imIn hm, rfl⟩
      have hd : ∀ b, Value.ref a = .ref b → ∃ o, s.heap.get? b = some o ∧ o.dict = none := fun b e => by cases e; exact ⟨_, st.imIn hm, rfl⟩
      exact getMethod_builtin hT F.plainAttrs_list F.slot_list_count F.type_list_count hd (fin hs ⟨_, r, rfl, rfl⟩)
    · exact hs.elim
  | _ => exact hs.elim

theorem extend_at {σ : AHeap} {φ : Ids} {mt im fr : Ledger} {s : Shared} {Q E : Value → Shared → Prop} (st : SS G C ρ σ φ mt im fr m s.heap) {p : Addr × Addr} {i : Nat} {ws us : List Value} {nn n2 : Nat} {b : Addr} {l l' : List AV} (hm : (p.1, W.listOf ws.toArray nn) ∈ mt) (hmb : (b, W.listOf us.toArray n2) ∈ im)
    (ep : φ[i]? = some p) (e2 : p.2 = p.1) (rl : RepL G φ im l ws) (rb : RepL G φ im l' us) (hz : l.length + l'.length ≤ 1000) (hs : Sp G C ρ m (Rep G) φ im fr Q E s (Res.ok AV.none (σ.set i (.list (l ++ l'))))) :
    wpAny (model G.prog G.w) C.A (call (.builtin "list.extend") [.ref p.1, .ref b]) Q E s := by
  have z1 : (ws.toArray.size + us.toArray.size) ≤ 1000 := by simp only [List.size_toArray, rl.length, rb.length]; exact hz
  have hbig : ¬(!ws.toArray.isEmpty && Builtin.List.listTooLong (ws.toArray.size + us.toArray.size)) = true := by
    intro e
    rw [Bool.and_eq_true] at e
    have e3 := e.2
    unfold Builtin.List.listTooLong at e3
    rw [sizeLine_eq, decide_eq_true_eq] at e3
    omega
  have hsz : ws.toArray.toList.length ≤ sizeLine := Nat.le_trans (Nat.le_add_right _ us.toArray.size) (Nat.le_trans z1 (by rw [sizeLine_eq]; decide))
  have hmbN : (b, W.listOf us.toArray n2) ∈ mt ++ (im ++ fr) := List.mem_append.mpr (.inr (List.mem_append.mpr (.inl hmb)))
  have others : ∀ q ∈ im ++ fr, q.1 ≠ p.1 := fun q hq e => st.sep _ hm q hq e.symm
  have z2 : ws.toArray.size + us.toArray.size ≤ sizeLine + 1 := Nat.le_trans z1 (by rw [sizeLine_eq]; decide)
  induction us using List.casesOn with
  | nil =>
    have hl0 : l' = [] := List.eq_nil_of_length_eq_zero (by rw [← rb.length]; rfl)
    subst hl0
    refine kxn_extend st.F st.N hmbN rfl (upd_putAt (o' := W.listOf ws.toArray nn) st.nd hm others) hbig hsz z2 fun h' F' N' => ?_
    exact hs φ _ im fr h' s.toks .none (Ext.refl ..) (st.setMt hm ep (.inl rfl) F' N' ⟨e2, ws, nn, putAt_self hm, by simpa using rl⟩) rep_none
  | cons u us =>
    refine kl_extend st.F st.N hmbN (l := ws ++ (u :: us)) rfl (by simp) (upd_putAt st.nd hm others) hbig hsz z2 fun h' F' N' => ?_
    exact hs φ _ im fr h' s.toks .none (Ext.refl ..) (st.setMt hm ep (.inl rfl) F' N' ⟨e2, ws ++ (u :: us), nn + 1, putAt_self hm, rl.append rb⟩) rep_none
theorem sm_methM (ok : G.Ok) (hC : C.Ok n) {c : Callee} (hc : CSim G n c) {o : AV} {k : MK} {ff : Value × List Value} {l : List AV} {vs : List Value} (hk : ∀ φ im, P φ im → MRel G o φ im k ff) (hl : ∀ φ im, P φ im → RepL G φ im l vs) :
    Sm G C ρ m P (Rep G) (call ff.1 (ff.2 ++ vs)) (methM c k o l) := by
  intro σ φ mt im fr s Q E hp st hs
  obtain ⟨v, r, e2, e1⟩ := hk _ _ hp
  have hrl := hl _ _ hp
  obtain ⟨f, first⟩ := ff
  dsimp only at e1 e2 ⊢
  subst e2
  have okd : ∀ (p : Addr × Addr) (od : Obj), (p.1, od) ∈ mt → (p.1 == sysModules) = false := fun p od hm => by
    obtain ⟨o', ho'⟩ := ok.mods
    rw [beq_eq_false_iff_ne]
    intro e
    have := (st.N _ (List.mem_append.mpr (.inl hm))).2.2
    rw [e, ho'] at this; exact (no_sn this).elim
  induction k using MK.casesOn with
  | append =>
    dsimp only at e1; subst e1
    obtain ⟨i, e, hs1⟩ := on_obj (K := Sp G C ρ m (Rep G) φ im fr Q E s) (fun x => x) hs
    obtain ⟨a, e', hs2⟩ := on1_out (K := Sp G C ρ m (Rep G) φ im fr Q E s) (fun x => x) hs1
    clear hs hs1 hk hl
    subst e e'
    obtain ⟨ob, e, hs'⟩ := getObj_out (K := Sp G C ρ m (Rep G) φ im fr Q E s) (fun x => x) hs2
    clear hs2
    obtain ⟨p, ep, rfl, oa⟩ := st.objAt e r
    obtain ⟨u, rfl, ru⟩ := one_of hrl
    induction ob using AObj.casesOn with
    | list l =>
      obtain ⟨e2, ws, nn, hm, rl⟩ := oa
      obtain ⟨hz, hs⟩ := on_if (K := Sp G C ρ m (Rep G) φ im fr Q E s) (fun x => x) hs'
      clear hs'
      have hil : i < σ.length := by rw [← st.hp.len]; exact (List.getElem?_eq_some_iff.mp ep).1
      change Sp G C ρ m (Rep G) φ im fr Q E s ((setObj i _ σ).bind _) at hs
      rw [setObj_in hil] at hs
      unfold sizeCap at hz
      refine append_at (st.mtIn hm) (fun h' hsame hg => ?_) (by rw [List.size_toArray, rl.length, sizeLine_eq]; omega)
      obtain ⟨F', N'⟩ := st.changed hm hsame hg
      exact hs φ _ im fr h' s.toks .none (Ext.refl ..) (st.setMt hm ep (.inl rfl) F' N' ⟨e2, ws ++ [u], nn + 1, by simpa using putAt_self hm, rl.append (RepL.cons ru RepL.nil)⟩) rep_none
    | _ => exact hs'.elim
  | extend =>
    dsimp only at e1; subst e1
    obtain ⟨i, e, hs1⟩ := on_obj (K := Sp G C ρ m (Rep G) φ im fr Q E s) (fun x => x) hs
    obtain ⟨a, e', hs2⟩ := on1_out (K := Sp G C ρ m (Rep G) φ im fr Q E s) (fun x => x) hs1
    obtain ⟨l', e'', hs3⟩ := on_lst (K := Sp G C ρ m (Rep G) φ im fr Q E s) (fun x => x) hs2
    clear hs hs1 hs2 hk hl
    subst e e' e''
    obtain ⟨ob, e, hs'⟩ := getObj_out (K := Sp G C ρ m (Rep G) φ im fr Q E s) (fun x => x) hs3
    clear hs3
    obtain ⟨p, ep, rfl, oa⟩ := st.objAt e r
    obtain ⟨u, rfl, ru⟩ := one_of hrl
    clear hrl
    unfold Rep at ru
    obtain ⟨b, us, n2, rfl, hmb, rb⟩ := ru
    induction ob using AObj.casesOn with
    | list l =>
      obtain ⟨e2, ws, nn, hm, rl⟩ := oa
      obtain ⟨hz, hs⟩ := on_if (K := Sp G C ρ m (Rep G) φ im fr Q E s) (fun x => x) hs'
      clear hs'
      have hil : i < σ.length := by rw [← st.hp.len]; exact (List.getElem?_eq_some_iff.mp ep).1
      change Sp G C ρ m (Rep G) φ im fr Q E s ((setObj i _ σ).bind _) at hs
      rw [setObj_in hil] at hs
      unfold sizeCap at hz
      exact extend_at st hm hmb ep e2 rl rb hz hs
    | _ => exact hs'.elim
  | dget =>
    dsimp only at e1; subst e1
    obtain ⟨i, e, hs1⟩ := on_obj (K := Sp G C ρ m (Rep G) φ im fr Q E s) (fun x => x) hs
    obtain ⟨a, d, e', hs2⟩ := on2_out (K := Sp G C ρ m (Rep G) φ im fr Q E s) (fun x => x) hs1
    obtain ⟨x, e'', hs3⟩ := on_str (K := Sp G C ρ m (Rep G) φ im fr Q E s) (fun x => x) hs2
    clear hs hs1 hs2 hk hl
    subst e e' e''
    obtain ⟨ob, e, hs'⟩ := getObj_out (K := Sp G C ρ m (Rep G) φ im fr Q E s) (fun x => x) hs3
    clear hs3
    obtain ⟨p, ep, rfl, oa⟩ := st.objAt e r
    obtain ⟨kv, dv, rfl, rk, rd⟩ := two_of hrl
    clear hrl
    obtain ⟨t, rfl⟩ : ∃ t, kv = .str x t := by unfold Rep at rk; exact rk
    induction ob using AObj.casesOn with
    | dict l =>
      obtain ⟨_, od, kvs, hm, hdo, rkv⟩ := oa
      have Mp := Heap.DictOf.mapOf (Heap.dictOf_iff.mpr ⟨od, st.mtIn hm, hdo⟩)
      refine call_meetsIn F.slot_dict_get Mp.typeIs F.entry_dict_get (F.args_dict_get_3 _ _ _) (meets_dict_get_default (PySem.strKind G.prog G.w) p.1 (k := x) (by simp [PySem.strKind, Value.isStrOf]) (okd p od hm) dv) ⟨_, Mp, ?_⟩
      have g := rkv.valueAt (x := x)
      refine Sp.okOut (tk := s.toks + 1) hs' st ?_
      induction e : l.lookup x using Option.casesOn with
      | none => rw [e] at g; dsimp only at g; rw [g]; exact rd
      | some a => rw [e] at g; obtain ⟨v, gv, rv⟩ := g; rw [gv]; exact rv
    | _ => exact hs'.elim
  | count =>
    dsimp only at e1; subst e1
    obtain ⟨l', e, hs1⟩ := on_lst (K := Sp G C ρ m (Rep G) φ im fr Q E s) (fun x => x) hs
    obtain ⟨a, e', hs2⟩ := on1_out (K := Sp G C ρ m (Rep G) φ im fr Q E s) (fun x => x) hs1
    obtain ⟨x, e'', hs3⟩ := on_str (K := Sp G C ρ m (Rep G) φ im fr Q E s) (fun x => x) hs2
    obtain ⟨ns, en, hs4⟩ := onS_out (K := Sp G C ρ m (Rep G) φ im fr Q E s) (fun x => x) hs3
    clear hs hs1 hs2 hs3 hk hl
    subst e e' e''
    obtain ⟨kv, rfl, rk⟩ := one_of hrl
    obtain ⟨t, rfl⟩ : ∃ t, kv = .str x t := by unfold Rep at rk; exact rk
    unfold Rep at r
    obtain ⟨a, us, nn, rfl, hm, rl⟩ := r
    exact count_list_strs (isList_of_listOf (st.imIn hm)) (strs_are en rl) (Sp.okOut (tk := s.toks + 1) hs4 st (rep_int _ _))
  | fn f =>
    dsimp only at e1
    obtain ⟨rfl, _⟩ := e1
    exact (hc C ρ m f (o :: l) (v :: vs) hC) σ φ mt im fr s Q E (RepL.cons r hrl) st hs
end rules
end Mine
end
section
namespace Mine
open PySem PySem.W PySem.Calls PyProof.Rows

structure EvSim (G : Gd) (n : Nat) (ev : Ev) : Prop where
  e : ESim G n ev.e
  t : TSim G n ev.t

section rules
variable {G : Gd} {C : Act} {ρ : LEnv} {m : Str → Option Value} {P : Pre} {n : Nat} {ev : Ev}

theorem EvSim.at_ (h : EvSim G n ev) (hC : C.Ok n) (e : Expr) : Sm G C ρ m P (Rep G) (eval e C.env) (ev.e e ρ) := (h.e C ρ m e hC).mono fun _ _ _ => trivial
theorem EvSim.test (h : EvSim G n ev) (hC : C.Ok n) (e : Expr) : Sm G C ρ m P (fun _ _ a b => b = a) (isTrue e C.env (eval e C.env)) (ev.t e ρ) := (h.t C ρ m e hC).mono fun _ _ _ => trivial

theorem stableEq {α : Type} {a b : α} : Stable (fun _ _ => b = a) := fun _ _ _ _ _ _ _ h => h

theorem sm_boolOp (h : EvSim G n ev) (hC : C.Ok n) (pos : Pos) (op : BoolOp) : ∀ (xs : List Expr) (P : Pre), Stable P → Sm G C ρ m P (Rep G) (boolOp pos op (evalEach xs C.env)) (boolE ev.e ρ op xs)
  | [], P, _ => Sm.fail
  | [x], P, _ => h.at_ hC x
  | x :: y :: r, P, hP => by
    show Sm G C ρ m P (Rep G) (do
      let v ← eval x C.env
      standAt pos
      let t ← holding [v] (truthy v)
      match op, t with
        | .And, false | .Or, true => pure v
        | _, _ => boolOp pos op (evalEach (y :: r) C.env)) (do
      let v ← ev.e x ρ
      let t ← truth v
      match op, t with
      | .And, false => pure v
      | .Or, true => pure v
      | _, _ => boolE ev.e ρ op (y :: r))
    refine Sm.bind hP (h.at_ hC x) fun a v => Sm.at ?_
    refine Sm.bind (hP.and (stableRep a v)) (Sm.holding (sm_truthy fun φ im h => h.2)) fun b t => ?_
    refine Sm.exact (X := t = b) (fun φ im h => h.2) fun e => ?_
    subst e
    cases op <;> cases t
    · exact Sm.pure fun φ im h => h.1.2
    · exact sm_boolOp h hC pos .And (y :: r) _ ((hP.and (stableRep a v)).and stableEq)
    · exact sm_boolOp h hC pos .Or (y :: r) _ ((hP.and (stableRep a v)).and stableEq)
    · exact Sm.pure fun φ im h => h.1.2

theorem marked_ok {op : CmpOp} {e : Expr} {t : Sem Value} (h : okE e = true) : markedBehindIn op e t = t := markedBehindIn_of_false (by cases e <;> first | rfl | exact (no_ft h).elim)

theorem sm_chain (ok : G.Ok) (h : EvSim G n ev) (hC : C.Ok n) (pos : Pos) : ∀ (ops : List CmpOp) (rs : List Expr) (P : Pre) (a : AV) (v : Value), Stable P → (∀ φ im, P φ im → Rep G φ im a v) →
    Sm G C ρ m P (Rep G) (compareChain pos v ops (markedEach ops rs (evalEach rs C.env))) (chainE ev.e ρ a ops rs)
  | [], _, P, a, v, _, _ => Sm.fail
  | _ :: ops, [], P, a, v, _, _ => by cases ops <;> exact Sm.fail
  | [op], [r], P, a, v, hP, hv => by
    show Sm G C ρ m P (Rep G) _ (if okE r then (do
      let rv ← ev.e r ρ
      cmpM op a rv) else failM)
    refine Sm.cond fun hr => ?_
    show Sm G C ρ m P (Rep G) (do
      let rv ← holding [v] (markedBehindIn op r (eval r C.env))
      standAt pos
      PySem.operate [v, rv] (compareOp op v rv)) _
    rw [marked_ok hr]
    exact Sm.bind hP (Sm.holding (h.at_ hC r)) fun b w => Sm.at (Sm.operate (sm_cmpM ok hC op (fun φ im x => hv _ _ x.1) fun φ im x => x.2))
  | [op], r :: r' :: rs, P, a, v, hP, hv => by
    show Sm G C ρ m P (Rep G) (do
      let rv ← holding [v] (eval r C.env)
      standAt pos
      let c ← holding [v, rv] (compareOp op v rv)
      PySem.release [v, rv] [c]
      if ← holding [c, rv] (truthy c) then compareChain pos rv [] (markedEach [] (r' :: rs) (evalEach (r' :: rs) C.env)) else pure c) (do
      let rv ← ev.e r ρ
      let c ← cmpM op a rv
      if ← truth c then chainE ev.e ρ rv [] (r' :: rs) else pure c)
    refine Sm.bind hP (Sm.holding (h.at_ hC r)) fun b w => Sm.at ?_
    refine Sm.bind (hP.and (stableRep b w)) (Sm.holding (sm_cmpM ok hC op (fun φ im x => hv _ _ x.1) fun φ im x => x.2)) fun c cv => Sm.release ?_
    refine Sm.bind ((hP.and (stableRep b w)).and (stableRep c cv)) (Sm.holding (sm_truthy fun φ im h => h.2)) fun t t' => ?_
    refine Sm.exact (X := t' = t) (fun φ im h => h.2) fun e => Sm.ite e (fun _ => ?_) fun _ => Sm.pure fun φ im h => h.1.2
    exact Sm.fail
  | op :: op' :: ops, r :: rs, P, a, v, hP, hv => by
    have e : markedEach (op :: op' :: ops) (r :: rs) (evalEach (r :: rs) C.env) = eval r C.env :: markedEach (op' :: ops) rs (evalEach rs C.env) := rfl
    rw [e]
    show Sm G C ρ m P (Rep G) (do
      let rv ← holding [v] (eval r C.env)
      standAt pos
      let c ← holding [v, rv] (compareOp op v rv)
      PySem.release [v, rv] [c]
      if ← holding [c, rv] (truthy c) then compareChain pos rv (op' :: ops) (markedEach (op' :: ops) rs (evalEach rs C.env)) else pure c) (do
      let rv ← ev.e r ρ
      let c ← cmpM op a rv
      if ← truth c then chainE ev.e ρ rv (op' :: ops) rs else pure c)
    refine Sm.bind hP (Sm.holding (h.at_ hC r)) fun b w => Sm.at ?_
    refine Sm.bind (hP.and (stableRep b w)) (Sm.holding (sm_cmpM ok hC op (fun φ im x => hv _ _ x.1) fun φ im x => x.2)) fun c cv => Sm.release ?_
    refine Sm.bind ((hP.and (stableRep b w)).and (stableRep c cv)) (Sm.holding (sm_truthy fun φ im h => h.2)) fun t t' => ?_
    refine Sm.exact (X := t' = t) (fun φ im h => h.2) fun e => Sm.ite e (fun _ => ?_) fun _ => Sm.pure fun φ im h => h.1.2
    exact sm_chain ok h hC pos (op' :: ops) rs _ b w (((hP.and (stableRep b w)).and (stableRep c cv)).and stableEq) fun φ im h => h.1.1.2

theorem sm_testChain (ok : G.Ok) (h : EvSim G n ev) (hC : C.Ok n) (pos : Pos) : ∀ (ops : List CmpOp) (rs : List Expr) (P : Pre) (a : AV) (v : Value), Stable P → (∀ φ im, P φ im → Rep G φ im a v) →
    Sm G C ρ m P (fun _ _ a b => b = a) (testChain pos v ops (markedEach ops rs (evalEach rs C.env))) (chainE ev.e ρ a ops rs >>= truth)
  | [], _, P, a, v, _, _ => Sm.fail
  | _ :: ops, [], P, a, v, _, _ => by cases ops <;> exact Sm.fail
  | [op], [r], P, a, v, hP, hv => by
    show Sm G C ρ m P _ _ ((if okE r then (do
      let rv ← ev.e r ρ
      cmpM op a rv) else failM) >>= truth)
    by_cases hr : okE r = true
    · rw [if_pos hr]
      show Sm G C ρ m P _ (do
        let rv ← holding [v] (markedBehindIn op r (eval r C.env))
        standAt pos
        let c ← PySem.operate [v, rv] (compareOp op v rv)
        holding [c] (truthy c)) _
      rw [marked_ok hr, bind_assocM]
      exact Sm.bind hP (Sm.holding (h.at_ hC r)) fun b w => Sm.at (Sm.bind (hP.and (stableRep b w)) (Sm.operate (sm_cmpM ok hC op (fun φ im x => hv _ _ x.1) fun φ im x => x.2)) fun c cv => Sm.holding (sm_truthy fun φ im h => h.2))
    · rw [if_neg hr]; exact Sm.fail
  | [op], r :: r' :: rs, P, a, v, hP, hv => by
    show Sm G C ρ m P _ (do
      let rv ← holding [v] (eval r C.env)
      standAt pos
      let c ← holding [v, rv] (compareOp op v rv)
      PySem.release [v, rv] [c]
      if ← holding [c, rv] (truthy c) then testChain pos rv [] (markedEach [] (r' :: rs) (evalEach (r' :: rs) C.env)) else pure false) ((do
      let rv ← ev.e r ρ
      let c ← cmpM op a rv
      if ← truth c then chainE ev.e ρ rv [] (r' :: rs) else pure c) >>= truth)
    simp only [bind_assocM]
    refine Sm.bind hP (Sm.holding (h.at_ hC r)) fun b w => Sm.at ?_
    refine Sm.bind (hP.and (stableRep b w)) (Sm.holding (sm_cmpM ok hC op (fun φ im x => hv _ _ x.1) fun φ im x => x.2)) fun c cv => Sm.release ?_
    intro σ φ mt im fr s Q E hp st hs
    induction c using AV.casesOn with
    | bool t =>
      have rc := hp.2
      unfold Rep at rc
      subst rc
      refine wpAny_bind (wpAny_holding (wpAny_truthy_bool ?_))
      induction t using Bool.casesOn with
      | true => exact absurd hs id
      | false => exact wpAny_pure (Sp.okOut (tk := s.toks) hs st rfl)
    | _ => exact hs.elim
  | op :: op' :: ops, r :: rs, P, a, v, hP, hv => by
    have e : markedEach (op :: op' :: ops) (r :: rs) (evalEach (r :: rs) C.env) = eval r C.env :: markedEach (op' :: ops) rs (evalEach rs C.env) := rfl
    rw [e]
    show Sm G C ρ m P _ (do
      let rv ← holding [v] (eval r C.env)
      standAt pos
      let c ← holding [v, rv] (compareOp op v rv)
      PySem.release [v, rv] [c]
      if ← holding [c, rv] (truthy c) then testChain pos rv (op' :: ops) (markedEach (op' :: ops) rs (evalEach rs C.env)) else pure false) ((do
      let rv ← ev.e r ρ
      let c ← cmpM op a rv
      if ← truth c then chainE ev.e ρ rv (op' :: ops) rs else pure c) >>= truth)
    simp only [bind_assocM]
    refine Sm.bind hP (Sm.holding (h.at_ hC r)) fun b w => Sm.at ?_
    refine Sm.bind (hP.and (stableRep b w)) (Sm.holding (sm_cmpM ok hC op (fun φ im x => hv _ _ x.1) fun φ im x => x.2)) fun c cv => Sm.release ?_
    intro σ φ mt im fr s Q E hp st hs
    induction c using AV.casesOn with
    | bool t =>
      have rc := hp.2
      unfold Rep at rc
      subst rc
      refine wpAny_bind (wpAny_holding (wpAny_truthy_bool ?_))
      induction t using Bool.casesOn with
      | true => exact sm_testChain ok h hC pos (op' :: ops) rs _ b w ((hP.and (stableRep b w)).and (stableRep _ _)) (fun φ im h => h.1.2) σ φ mt im fr s Q E hp st hs
      | false => exact wpAny_pure (Sp.okOut (tk := s.toks) hs st rfl)
    | _ => exact hs.elim

theorem sm_allTrue (h : EvSim G n ev) (hC : C.Ok n) (op : BoolOp) : ∀ (xs : List Expr) (P : Pre), Stable P → Sm G C ρ m P (fun _ _ a b => b = a) (allTrue op xs C.env) (allT ev.t ρ op xs)
  | [], P, _ => Sm.pure fun _ _ _ => rfl
  | x :: r, P, hP => by
    rw [arm_allTrue_cons]
    show Sm G C ρ m P _ (do
      let t ← isTrue x C.env (eval x C.env)
      match op, t with
        | .And, false => pure false
        | .Or, true => pure true
        | _, _ => allTrue op r C.env) (do
      let t ← ev.t x ρ
      match op, t with
      | .And, false => pure false
      | .Or, true => pure true
      | _, _ => allT ev.t ρ op r)
    refine Sm.bind hP (h.test hC x) fun b t => ?_
    refine Sm.exact (X := t = b) (fun φ im h => h.2) fun e => ?_
    subst e
    cases op <;> cases t
    · exact Sm.pure fun φ im h => rfl
    · exact sm_allTrue h hC .And r _ (hP.and stableEq)
    · exact sm_allTrue h hC .Or r _ (hP.and stableEq)
    · exact Sm.pure fun φ im h => rfl

theorem sm_test (ok : G.Ok) (h : EvSim G n ev) (hC : C.Ok n) (hP : Stable P) (e : Expr) : Sm G C ρ m P (fun _ _ a b => b = a) (isTrue e C.env (eval e C.env)) (stepT ev e ρ) := by
  have val : isTrue e C.env (eval e C.env) = (do let v ← eval e C.env; standAt e.pos; holding [v] (truthy v)) → Sm G C ρ m P (fun _ _ a b => b = a) (isTrue e C.env (eval e C.env)) (ev.e e ρ >>= truth) := fun he => by
    rw [he]
    exact Sm.bind hP (h.at_ hC e) fun a v => Sm.at (Sm.holding (sm_truthy fun φ im h => h.2))
  induction e using PySem.Expr.casesOn with
  | UnaryOp op x pos =>
    induction op using PySem.UnaryOp.casesOn with
    | Not =>
      rw [arm_isTrue_UnaryOp]
      refine Sm.bind hP (h.test hC x) fun b t => Sm.pure fun φ im h => ?_
      rw [h.2]
    | _ => exact val rfl
  | BoolOp op xs pos => rw [arm_isTrue_BoolOp]; exact sm_allTrue h hC op xs P hP
  | Compare l ops rs pos =>
    rw [arm_isTrue_Compare]
    exact Sm.bind hP (h.at_ hC l) fun a v => sm_testChain ok h hC pos ops rs _ a v (hP.and (stableRep a v)) fun φ im h => h.2
  | IfExp a b c pos => exact Sm.fail
  | _ => exact val rfl
end rules
end Mine
end
section
namespace Mine
open PySem PySem.W PySem.Calls PyProof.Rows

theorem attributeBase_ok {o : Expr} (h : baseOk o = true) (x : Str) (env : Env) (whole : Sem Value) : attributeBase o x env whole = whole := by
  induction o using PySem.Expr.casesOn with
  | Call f as ks p =>
    induction as using List.casesOn with
    | nil => exact (no_ft h).elim
    | cons a r => cases f <;> rfl
  | _ => rfl
theorem baseOk_simple {o : Expr} (h : simpleO o = true) : baseOk o = true := by cases o <;> first | rfl | exact (no_ft h).elim
theorem eval_Subscript' (value slice pos) (env : Env) : eval (.Subscript value slice pos) env = (eval value env >>= fun o => holding [o] (eval slice env) >>= fun i => standAt pos >>= fun _ => subscriptTail value slice o i) := rfl

section rules
variable {G : Gd} {C : Act} {ρ : LEnv} {m : Str → Option Value} {P : Pre} {n : Nat} {ev : Ev}

noncomputable def OptRep (G : Gd) : VRel (Option AV) Value := fun φ im a v => match a with
  | none => v = .none
  | some a => Rep G φ im a v
theorem OptRep.stable {a : Option AV} {v : Value} : Stable (fun φ im => OptRep G φ im a v) := by
  induction a using Option.casesOn with
  | none => exact fun _ _ _ _ _ _ _ h => h
  | some a => exact stableRep a v
theorem sm_part (h : EvSim G n ev) (hC : C.Ok n) (o : Option Expr) : Sm G C ρ m P (OptRep G) (evalPart o C.env) (evOpt ev.e ρ o) := by
  induction o using Option.casesOn with
  | none => exact Sm.pure fun _ _ _ => rfl
  | some e =>
    intro σ φ mt im fr s Q E hp st hs
    refine h.at_ hC e σ φ mt im fr s Q E hp st ?_
    change Sp G C ρ m (OptRep G) φ im fr Q E s ((ev.e e ρ σ).bind _) at hs
    induction e : ev.e _ ρ σ using Res.casesOn with
    | ok a σ' => rw [e] at hs; exact hs
    | exn σ' => rw [e] at hs; exact hs
    | fail => rw [e] at hs; exact hs

noncomputable def sliceObj (l u : Value) : Obj := { cls := .type "slice", data := .fields #[l, u, .none] }
noncomputable def SliceRep (G : Gd) : VRel (Option AV × Option AV) Value := fun φ im ab v => ∃ a l u, v = .ref a ∧ (a, sliceObj l u) ∈ im ∧ OptRep G φ im ab.1 l ∧ OptRep G φ im ab.2 u

theorem sm_sliceE (h : EvSim G n ev) (hC : C.Ok n) (hP : Stable P) (lo up : Option Expr) (p : Pos) :
    Sm G C ρ m P (SliceRep G) (eval (.Slice lo up none p) C.env) (do
      let a ← evOpt ev.e ρ lo
      let b ← evOpt ev.e ρ up
      pure (a, b)) := by
  have e : eval (.Slice lo up none p) C.env = (do
    let l ← evalPart lo C.env
    let u ← holding [l] (evalPart up C.env)
    let s ← holding [l, u] (pure .none)
    newFields "slice" [l, u, s]) := rfl
  rw [e]
  refine Sm.bind hP (sm_part h hC lo) fun a l => Sm.bind (hP.and OptRep.stable) (Sm.holding (sm_part h hC up)) fun b u => ?_
  intro σ φ mt im fr s Q E hp st hs
  refine wpAny_bind (wpAny_holding (wpAny_pure (wpAny_newObj_type ?_)))
  refine hs φ mt ((s.heap.objs.size, sliceObj l u) :: im) fr _ s.toks _ (Ext.addIm _) (st.addIm (o := sliceObj l u) (st.F.push _) (News.push st.F st.N _) (Nat.le_refl _) ⟨fun es n e => (by cases e), fun v e => (by cases e)⟩) ?_
  exact ⟨_, l, u, rfl, .head _, OptRep.stable _ _ _ _ _ _ (Ext.addIm (fr := fr) (s.heap.objs.size, sliceObj l u)) hp.1.2, OptRep.stable _ _ _ _ _ _ (Ext.addIm (fr := fr) (s.heap.objs.size, sliceObj l u)) hp.2⟩
theorem SliceRep.stable {ab : Option AV × Option AV} {v : Value} : Stable (fun φ im => SliceRep G φ im ab v) := fun _ _ _ _ _ _ x ⟨a, l, u, e, hm, h1, h2⟩ =>
  ⟨a, l, u, e, x.im _ hm, OptRep.stable _ _ _ _ _ _ x h1, OptRep.stable _ _ _ _ _ _ x h2⟩

theorem sm_slice {value : Expr} {lo up : Option Expr} {p : Pos} {o : AV} {a b : Option AV} {vo vi : Value} (ho : ∀ φ im, P φ im → Rep G φ im o vo) (hi : ∀ φ im, P φ im → SliceRep G φ im (a, b) vi) :
    Sm G C ρ m P (Rep G) (subscriptTail value (.Slice lo up none p) vo vi) (sliceM o a b) := by
  intro σ φ mt im fr s Q E hp st hs
  have r := ho _ _ hp
  obtain ⟨sl, l, u, rfl, hm, rl, ru⟩ := hi _ _ hp
  have hsl : s.heap.IsSliceOf sl l u .none := ⟨_, st.imIn hm, rfl, rfl⟩
  induction a using Option.casesOn with
  | some a =>
    induction b using Option.casesOn with
    | some b => exact hs.elim
    | none =>
      obtain ⟨its, e, hs1⟩ := on_tup (K := Sp G C ρ m (Rep G) φ im fr Q E s) (fun x => x) hs
      obtain ⟨k, e', hs2⟩ := on_int (K := Sp G C ρ m (Rep G) φ im fr Q E s) (fun x => x) hs1
      obtain ⟨⟨h1, h2, h3⟩, hs3⟩ := on_if (K := Sp G C ρ m (Rep G) φ im fr Q E s) (fun x => x) hs2
      clear hs hs1 hs2 ho hi hp
      subst e e'
      unfold Rep at r
      obtain ⟨x, vs, nn, rfl, hx, rv⟩ := r
      obtain ⟨t, rfl⟩ : ∃ t, l = .int k t := by have rl : Rep G φ im (.int k) l := rl; unfold Rep at rl; exact rl
      obtain rfl : u = .none := ru
      unfold sizeCap at h3
      obtain ⟨j, rfl⟩ := Int.eq_ofNat_of_zero_le (Int.le_trans (by decide) h1)
      have hT : IsTup s.heap x vs.toArray := ⟨_, st.imIn hx, rfl, _, rfl⟩
      refine sub_tail_slice hT.typeIs slot_tuple_getitem.lookup (getItem_tuple_from (a := j) hT hsl (by omega) (by rw [List.size_toArray, rv.length]; omega) ?_ (by rw [List.size_toArray, rv.length, sizeLine_eq]; omega))
      refine hs3 φ mt _ fr _ s.toks _ (Ext.addIm _) (st.addIm (o := tupOf (vs.drop j) 0) (st.F.push _) (News.push st.F st.N _) (Nat.le_refl _) ⟨fun es n e => (by cases e), fun v e => (by cases e)⟩) ?_
      unfold Rep
      exact ⟨_, vs.drop j, 0, rfl, .head _, (rv.drop j).ext (Ext.addIm (fr := fr) _)⟩
  | none =>
    obtain ⟨b, e, hs0⟩ := onS_out (K := Sp G C ρ m (Rep G) φ im fr Q E s) (fun x => x) hs
    subst e
    obtain ⟨its, e, hs1⟩ := on_lst (K := Sp G C ρ m (Rep G) φ im fr Q E s) (fun x => x) hs0
    obtain ⟨k, e', hs2⟩ := on_int (K := Sp G C ρ m (Rep G) φ im fr Q E s) (fun x => x) hs1
    obtain ⟨⟨h1, h2, h3⟩, hs3⟩ := on_if (K := Sp G C ρ m (Rep G) φ im fr Q E s) (fun x => x) hs2
    clear hs hs0 hs1 hs2 ho hi hp
    subst e e'
    unfold Rep at r
    obtain ⟨x, vs, nn, rfl, hx, rv⟩ := r
    obtain rfl : l = .none := rl
    obtain ⟨t, rfl⟩ : ∃ t, u = .int k t := by have ru : Rep G φ im (.int k) u := ru; unfold Rep at ru; exact ru
    unfold sizeCap at h3
    obtain ⟨j, rfl⟩ := Int.eq_ofNat_of_zero_le h1
    have hL := isList_of_listOf (st.imIn hx)
    refine sub_tail_slice hL.typeIs slot_list_getitem.lookup (wpAny_getItem_list_slice (lo := none) (hi := some (j : Int)) (st := none) hL hsl ?_ ?_ ?_ (by simp) ?_ (by rw [List.size_toArray, rv.length, sizeLine_eq]; omega))
    · exact .none
    · exact .int _ _
    · exact .none
    · rw [slicePick_upto']
      refine hs3 φ mt _ fr _ s.toks _ (Ext.addIm _) (st.addIm (o := W.listOf (vs.take j).toArray 0) (st.F.push _) (News.push st.F st.N _) (Nat.le_refl _) ⟨fun es n e => (by cases e), fun v e => (by cases e)⟩) ?_
      unfold Rep
      exact ⟨_, vs.take j, 0, rfl, .head _, (rv.take j).ext (Ext.addIm (fr := fr) _)⟩

theorem sm_Subscript (h : EvSim G n ev) (hC : C.Ok n) (hP : Stable P) {value slice : Expr} {pos : Pos} (hsl : ∀ l u p, slice ≠ .Slice l u none p) : Sm G C ρ m P (Rep G) (eval (.Subscript value slice pos) C.env) (do
    let o ← ev.e value ρ
    let k ← ev.e slice ρ
    itemM o k) := by
  rw [eval_Subscript']
  exact Sm.bind hP (h.at_ hC value) fun a v => Sm.bind (hP.and (stableRep a v)) (Sm.holding (h.at_ hC slice)) fun b w => Sm.at (sm_item hsl (fun φ im x => x.1.2) fun φ im x => x.2)
theorem sm_SubscriptSlice (h : EvSim G n ev) (hC : C.Ok n) (hP : Stable P) {value : Expr} {lo up : Option Expr} {p pos : Pos} : Sm G C ρ m P (Rep G) (eval (.Subscript value (.Slice lo up none p) pos) C.env) (do
    let o ← ev.e value ρ
    let a ← evOpt ev.e ρ lo
    let b ← evOpt ev.e ρ up
    sliceM o a b) := by
  rw [eval_Subscript']
  refine Sm.bind hP (h.at_ hC value) fun a v => ?_
  have e : (do
    let x ← evOpt ev.e ρ lo
    let y ← evOpt ev.e ρ up
    sliceM a x y) = ((do
    let x ← evOpt ev.e ρ lo
    let y ← evOpt ev.e ρ up
    pure (x, y) : M (Option AV × Option AV)) >>= fun xy => sliceM a xy.1 xy.2) := by
    simp only [bind_assocM]
    rfl
  rw [e]
  exact Sm.bind (hP.and (stableRep a v)) (Sm.holding (sm_sliceE h hC (hP.and (stableRep a v)) lo up p)) fun xy i => Sm.at (sm_slice (fun φ im q => q.1.2) fun φ im q => q.2)

theorem sm_Attribute (ok : G.Ok) (h : EvSim G n ev) (hC : C.Ok n) (hP : Stable P) {o : Expr} {x : Str} {pos : Pos} (hb : baseOk o = true) : Sm G C ρ m P (Rep G) (eval (.Attribute o x pos) C.env) (do
    let ov ← ev.e o ρ
    getF G.tb.fieldOk ov x) := by
  rw [arm_eval_Attribute, attributeBase_ok hb]
  refine Sm.bind hP (h.at_ hC o) fun a v => Sm.at ?_
  exact Sm.tail (fun b A s Q E hq => wpAny_bind (wpAny_letTemporaryGo (wpAny_pure hq))) (Sm.holding (sm_getF ok fun φ im x => x.2))

noncomputable def MRelX (G : Gd) (k : MK) (f : Value) : Prop := match k with
  | .append => f = .builtin "list.append"
  | .extend => f = .builtin "list.extend"
  | .dget => f = .builtin "dict.get"
  | .count => f = .builtin "list.count"
  | .fn g => f = .ref g ∧ keepIn G.K (.ref g) = true

theorem sm_methodCall (ok : G.Ok) (h : EvSim G n ev) (hC : C.Ok n) (hP : Stable P) {c : Callee} (hc : CSim G n c) {o : Expr} {name : Str} {apos pos : Pos} {args : List Expr}
    (hk : (simpleO o && apos.endLine == pos.line && decide (args.length < 30) && args.all okE) = true) : Sm G C ρ m P (Rep G) (eval (.Call (.Attribute o name apos) args [] pos) C.env) (do
      let ov ← ev.e o ρ
      let k ← methKind G.tb.methAt ov name
      let vs ← evList ev.e ρ args
      methM c k ov vs) := by
  simp only [Bool.and_eq_true, decide_eq_true_eq] at hk
  obtain ⟨⟨⟨h1, h2⟩, h3⟩, h4⟩ := hk
  have hform : methodCallForm (args.length + 0) (backTo pos (starEach args C.env)) [] = true := by
    unfold methodCallForm
    have e1 : ((backTo pos (starEach args C.env)).all fun x => !x.1) = true := by
      have := args_plain (env := C.env) (pos := pos) h4
      rw [List.all_eq_not_any_not]
      simpa using this
    rw [e1]
    simpa using h3
  rw [arm_eval_Call, attributeBase_ok (baseOk_simple h1)]
  refine Sm.bind hP (h.at_ hC o) fun a v => Sm.at ?_
  show Sm G C ρ m _ (Rep G) (methodCall o name apos pos C.env v (args.length + 0) (backTo pos (starEach args C.env)) []) _
  unfold methodCall
  rw [hform]
  refine Sm.bind (hP.and (stableRep a v)) (Sm.holding (t := calleeOf true o C.env v name) (sm_methKind ok fun φ im x => x.2)) fun k ff => ?_
  obtain ⟨f, first⟩ := ff
  have epos : methodCallPos true o C.env apos pos = pure pos := by
    unfold methodCallPos
    rw [h2]; rfl
  dsimp only
  rw [epos]
  refine Sm.exact (X := MRelX G k f) (fun φ im q => ?_) fun q => ?_
  · obtain ⟨v', _, _, q⟩ := q.2
    cases k <;> exact q
  · show Sm G C ρ m _ (Rep G) (callWith pos f first (backTo pos (starEach args C.env)) []) _
    refine sm_callWith h.e hC ((hP.and (stableRep a v)).and MRel.stable) h4 (fun hh sth => ?_) fun l vs => sm_methM ok hC hc (ff := (f, first)) (fun φ im q => q.1.2) fun φ im q => q.2
    induction k using MK.casesOn with
    | fn g => obtain ⟨rfl, hkeep⟩ := q; exact keeps_K hkeep hh (ok.X.keeps sth)
    | append => cases q; exact keep_machine fun a e => by cases e
    | extend => cases q; exact keep_machine fun a e => by cases e
    | dget => cases q; exact keep_machine fun a e => by cases e
    | count => cases q; exact keep_machine fun a e => by cases e

theorem sm_nameCall (ok : G.Ok) (h : EvSim G n ev) (hC : C.Ok n) (hP : Stable P) {c : Callee} (hc : CSim G n c) {f : Expr} {pos : Pos} {args : List Expr}
    (hk : (isName f && args.all okE) = true) : Sm G C ρ m P (Rep G) (eval (.Call f args [] pos) C.env) (do
    let fv ← ev.e f ρ
    if goodF G.tb.isCallee fv then do
      let vs ← evList ev.e ρ args
      callM c fv vs
    else failM) := by
  simp only [Bool.and_eq_true] at hk
  induction f using PySem.Expr.casesOn with
  | Name x p =>
    rw [arm_eval_Call_Name']
    refine Sm.bind hP (h.at_ hC (.Name x p)) fun a v => Sm.cond fun hg => ?_
    refine Sm.exact (X := ∃ φ im, Rep G φ im a v) (fun φ im q => ⟨φ, im, q.2⟩) fun ⟨φ, im, q⟩ => ?_
    exact sm_callWith h.e hC (hP.and (stableRep a v)) hk.2 (goodF_keep ok hg q) fun l vs => sm_callM hC hc (fun φ im q => q.1.2) fun φ im q => q.2
  | _ => cases hk.1
end rules
end Mine
end
section
namespace Mine
open PySem PySem.W PySem.Calls PyProof.Rows

section rules
variable {G : Gd} {C : Act} {ρ : LEnv} {m : Str → Option Value} {P : Pre} {n : Nat} {ev : Ev}

theorem strValues_get {l : List (Str × Tok)} {y : Str} {r : List Str} (e : l.map (·.1) = y :: r) : ∃ t, (strValues l)[0]? = some (.str y t) := by
  induction l using List.casesOn with
  | nil => cases e
  | cons p l =>
    simp only [List.map_cons, List.cons.injEq] at e
    exact ⟨p.2, by rw [← e.1]; rfl⟩

theorem strC_some {c : Const} {d : Str} (h : strC c = some d) : c = .str d := told_some (P := fun d => c = .str d) h
theorem zeroC_of {c : Const} (h : zeroC c = true) : c = .int 0 := by induction c using PySem.Const.casesOn with
  | int i => rw [show i = 0 from eq_of_beq h]
  | _ => exact (no_ft h).elim
theorem recvOf_some {f : Expr} {r : Str × Str × Pos} (h : recvOf f = some r) : ∃ p, f = .Attribute (.Name r.1 p) r.2.1 r.2.2 := by
  obtain ⟨q, e1, h1⟩ := opt_bind h
  obtain ⟨x, e2, h2⟩ := opt_bind h1
  obtain ⟨p, e3⟩ := nameOf_some e2
  clear h h1
  cases h2
  exact ⟨p, by rw [attrOf_some e1, e3]⟩
theorem oneStr_some {as : List Expr} {d : Str} (h : oneStr as = some d) : ∃ k p, as = [.Constant (.str d) k p] := by
  obtain ⟨a, e1, h1⟩ := opt_bind h
  obtain ⟨c, e2, h2⟩ := opt_bind h1
  obtain ⟨k, p, e3⟩ := constOf_some e2
  exact ⟨k, p, by rw [oneOf_some e1, e3, strC_some h2]⟩
theorem zeroE_of {i : Expr} (h : zeroE i = true) : ∃ k p, i = .Constant (.int 0) k p := by
  unfold zeroE at h
  induction e : constOf i using Option.casesOn with
  | none => rw [e] at h; exact (no_ft h).elim
  | some c =>
    rw [e] at h
    obtain ⟨k, p, e3⟩ := constOf_some e
    exact ⟨k, p, by rw [e3, zeroC_of h]⟩
theorem methForm_some {v : Expr} {r : Str × Str × Pos × Str × Pos} (h : methForm v = some r) : ∃ p1 k p2, v = .Call (.Attribute (.Name r.1 p1) r.2.1 r.2.2.1) [.Constant (.str r.2.2.2.1) k p2] [] r.2.2.2.2 := by
  obtain ⟨c, e1, h1⟩ := opt_bind h
  obtain ⟨q, e2, h2⟩ := opt_bind h1
  obtain ⟨d, e3, h3⟩ := opt_bind h2
  obtain ⟨e4, h4⟩ := opt_if h3
  obtain ⟨p1, e5⟩ := recvOf_some e2
  obtain ⟨k, p2, e6⟩ := oneStr_some e3
  clear h h1 h2 h3
  subst h4
  exact ⟨p1, k, p2, by rw [callOf_some e1, e5, e6, isEmpty_of e4]⟩
theorem splitForm_some {v i : Expr} {r : Str × Str × Pos × Str × Pos} (h : splitForm v i = some r) :
    ∃ p1 k p2 k2 p3, v = .Call (.Attribute (.Name r.1 p1) r.2.1 r.2.2.1) [.Constant (.str r.2.2.2.1) k p2] [] r.2.2.2.2 ∧ i = .Constant (.int 0) k2 p3 := by
  unfold splitForm at h
  induction e : zeroE i using Bool.casesOn with
  | false => rw [e] at h; exact (no_ns h).elim
  | true =>
    rw [e] at h
    obtain ⟨k2, p3, ei⟩ := zeroE_of e
    obtain ⟨p1, k, p2, ev⟩ := methForm_some h
    exact ⟨p1, k, p2, k2, p3, ev, ei⟩
theorem sm_split (ok : G.Ok) (hC : C.Ok n) {x m' d : Str} {px apos cpos pc pi pos : Pos} {kc ki : Nat} : Sm G C ρ m P (Rep G)
    (eval (.Subscript (.Call (.Attribute (.Name x px) m' apos) [.Constant (.str d) kc pc] [] cpos) (.Constant (.int 0) ki pi) pos) C.env)
    (if m' = "split" ∧ d = "." ∧ (apos.endLine == cpos.line) = true ∧ (x == ("__debug__" : Str)) = false then match ρ.get G.tb x with
      | some (.str s) => if s.length ≤ sizeCap then (match Txt.split s "." with
          | y :: _ => pure (.str y)
          | [] => failM) else failM
      | _ => failM
    else failM) := by
  refine Sm.cond fun hk => ?_
  obtain ⟨rfl, rfl, hl, hd⟩ := hk
  intro σ φ mt im fr s Q E hp st hs
  induction hg : ρ.get G.tb x using Option.casesOn with
  | none => rw [hg] at hs; exact hs.elim
  | some av =>
    rw [hg] at hs
    induction av using AV.casesOn with
    | str z =>
      dsimp only at hs
      by_cases hz : z.length ≤ sizeCap
      · rw [if_pos hz] at hs
        induction hsp : Txt.split z "." using List.casesOn with
        | nil => rw [hsp] at hs; exact hs.elim
        | cons y r =>
          rw [hsp] at hs
          dsimp only at hs
          rw [eval_Subscript', arm_eval_Call, attributeBase_ok (o := .Name x px) rfl]
          simp only [bind_assoc]
          refine wpAny_bind (sm_name (ρ := ρ) (m := m) (P := P) ok hC x px hd σ φ mt im fr s _ E hp st ?_)
          rw [hg]
          intro φ' mt' im' fr' h' tk' b x' st' r'
          unfold Rep at r'
          obtain ⟨t, rfl⟩ := r'
          refine wpAny_bind (wpAny_standAt ?_)
          have epos : methodCallPos true (.Name x px) C.env apos cpos = pure cpos := by
            unfold methodCallPos
            rw [hl]; rfl
          show wpAny _ _ (methodCall (.Name x px) "split" apos cpos C.env (.str z t) 1 [(false, eval (.Constant (.str ".") kc pc) C.env)] [] >>= _) Q E _
          unfold methodCall
          refine wpAny_bind (wpAny_bind (wpAny_holding ?_))
          show wpAny _ _ (getMethod (.str z t) "split" _) _ E _
          refine getMethod_builtin (typeIs_str _ _ _) F.plainAttrs_str F.slot_str_split F.type_str_split (fun a e => by cases e) ?_
          show wpAny _ _ (methodCallPos true (.Name x px) C.env apos cpos >>= _) _ E _
          rw [epos]
          refine wpAny_bind (wpAny_pure (callWith_builtin rfl (evalArgs_plain (spliced_cons (wpAny_Constant_str (spliced_nil ?_))))))
          unfold sizeCap at hz
          refine splitN1A st'.F st'.N (by decide) (fun l h'' k e hS hlen hL F' N' => ?_) (by rw [sizeLine_eq]; omega)
          obtain ⟨t', ht'⟩ := strValues_get (e.trans hsp)
          refine wpAny_bind (wpAny_holding (wpAny_Constant_int (wpAny_bind (wpAny_standAt ?_))))
          refine sub_tail (fun l u p e => by cases e) hL.typeIs slot_list_getitem.lookup (wpAny_getItem_list hL (by decide) (by decide) (x := .str y t') (by simpa using ht') ?_)
          refine hs φ' mt' _ fr' h'' _ _ (x'.trans (Ext.addIm _)) (st'.addIm (o := W.listOf (strValues l).toArray 0) F' N' (Nat.le_refl _) ⟨fun es n e => (by cases e), fun v e => (by cases e)⟩) (rep_str _ _)
      · rw [if_neg hz] at hs; exact hs.elim
    | _ => exact hs.elim

theorem sm_UnaryNot (h : EvSim G n ev) (hC : C.Ok n) (hP : Stable P) {x : Expr} {pos : Pos} : Sm G C ρ m P (Rep G) (eval (.UnaryOp .Not x pos) C.env) (do
    let v ← ev.e x ρ
    return .bool (!(← truth v))) := by
  rw [arm_eval_UnaryOp]
  refine Sm.bind hP (h.at_ hC x) fun a v => Sm.at (Sm.holding ?_)
  intro σ φ mt im fr s Q E hp st hs
  refine not_value ?_
  refine sm_truthy (ρ := ρ) (m := m) (P := fun φ im => P φ im ∧ Rep G φ im a v) (fun φ im x => x.2) σ φ mt im fr s _ E hp st ?_
  change Sp G C ρ m (Rep G) φ im fr Q E s ((truth a σ).bind _) at hs
  induction e : truth a σ using Res.casesOn with
  | ok b σ' =>
    rw [e] at hs
    intro φ' mt' im' fr' h' tk' b' x st' eb
    subst eb
    exact hs φ' mt' im' fr' h' tk' _ x st' (rep_bool _)
  | exn σ' => rw [e] at hs; exact hs
  | fail => rw [e] at hs; exact hs

theorem sm_stepE (ok : G.Ok) (h : EvSim G n ev) (hC : C.Ok n) {c : Callee} (hc : CSim G n c) (hP : Stable P)
    (hcomp : ∀ elt target iter ifs scope pos, Sm G C ρ m P (Rep G) (eval (.ListComp elt [⟨target, iter, ifs, 0⟩] scope pos) C.env) (stepE G.tb c ev (.ListComp elt [⟨target, iter, ifs, 0⟩] scope pos) ρ)) (e : Expr) :
    Sm G C ρ m P (Rep G) (eval e C.env) (stepE G.tb c ev e ρ) := by
  induction e using PySem.Expr.casesOn with
  | Constant k n p => exact sm_const _ _ _
  | Name x p => exact Sm.cond fun hd => sm_name ok hC _ _ hd
  | BoolOp op xs p => exact sm_boolOp h hC _ _ _ P hP
  | BinOp l op r p =>
    rw [arm_eval_BinOp]
    exact Sm.bind hP (h.at_ hC _) fun a v => Sm.bind (hP.and (stableRep a v)) (Sm.holding (h.at_ hC _)) fun b w => Sm.at (Sm.operate (sm_binM hC _ (fun φ im x => x.1.2) fun φ im x => x.2))
  | UnaryOp op x p =>
    induction op using PySem.UnaryOp.casesOn with
    | Not => exact sm_UnaryNot h hC hP
    | _ => exact Sm.fail
  | IfExp t b o p =>
    rw [arm_eval_IfExp]
    refine Sm.bind hP (h.test hC _) fun b t => Sm.exact (X := t = b) (fun φ im x => x.2) fun e => Sm.ite e (fun _ => h.at_ hC _) fun _ => h.at_ hC _
  | Dict ks vs p =>
    induction ks using List.casesOn with
    | nil =>
      induction vs using List.casesOn with
      | nil => exact sm_Dict
      | cons _ _ => exact Sm.fail
    | cons _ _ => exact Sm.fail
  | List es p =>
    rw [arm_eval_List]
    exact Sm.at (Sm.bind hP (sm_items h.e hC _ _ P hP) fun l vs => Sm.cond fun hz => newListObj_sm (fun φ im x => x.2) hz)
  | Tuple es k p =>
    rw [arm_eval_Tuple]
    exact Sm.at (Sm.bind hP (sm_items h.e hC _ _ P hP) fun l vs => Sm.cond fun hz => newTupleObj_sm (fun φ im x => x.2) hz)
  | ListComp elt gens scope p =>
    induction gens using List.casesOn with
    | nil => exact Sm.fail
    | cons g r =>
      obtain ⟨target, iter, ifs, k⟩ := g
      induction k using Int.casesOn with
      | ofNat k =>
        induction k using Nat.casesOn with
        | zero =>
          induction r using List.casesOn with
          | nil => exact hcomp _ _ _ _ _ _
          | cons _ _ => exact Sm.fail
        | succ k => cases r <;> exact Sm.fail
      | negSucc k => cases r <;> exact Sm.fail
  | Compare l ops rs p =>
    rw [arm_eval_Compare]
    exact Sm.bind hP (h.at_ hC _) fun a v => sm_chain ok h hC _ _ _ _ a v (hP.and (stableRep a v)) fun φ im x => x.2
  | Call f args kws p =>
    induction kws using List.casesOn with
    | nil =>
      induction f using PySem.Expr.casesOn with
      | Attribute o name apos => exact Sm.cond fun hk => sm_methodCall ok h hC hP hc hk
      | Name x q => exact Sm.cond fun hk => sm_nameCall ok h hC hP hc hk
      | _ => exact Sm.fail
    | cons _ _ => cases f <;> exact Sm.fail
  | Attribute o x p => exact Sm.cond fun hk => sm_Attribute ok h hC hP hk
  | Subscript v i p =>
    induction q : splitForm v i using Option.casesOn with
    | some r =>
      obtain ⟨x, m', apos, d, pos⟩ := r
      obtain ⟨p1, k, p2, k2, p3, hv, hi⟩ := splitForm_some q
      clear q hcomp hP h hc
      subst hv hi
      exact sm_split ok hC
    | none =>
      induction hs : sliceOf i using Option.casesOn with
      | some lu =>
        obtain ⟨lo, up⟩ := lu
        obtain ⟨sp, hi⟩ := sliceOf_some hs
        rw [stepE_slice q hs, hi]
        exact sm_SubscriptSlice h hC hP
      | none =>
        rw [stepE_sub q hs]
        exact sm_Subscript h hC hP (sliceOf_none hs)
  | _ => exact Sm.fail
end rules
end Mine
end
section
namespace Mine
open PySem PySem.W PySem.Calls PyProof.Rows

noncomputable def FrS (C : Act) (fr fr' : Ledger) : Prop := ∀ p ∈ fr, (∀ x, C.env.cells.lookup x ≠ some p.1) → FrIn p fr'
theorem FrS.refl (C : Act) (fr : Ledger) : FrS C fr fr := fun _ h _ => .self h
theorem FrS.trans {C : Act} {a b c : Ledger} (x : FrS C a b) (y : FrS C b c) : FrS C a c := fun p h hn => (x p h hn).trans fun q hq e => y q hq (e ▸ hn)
structure ExtS (C : Act) (φ : Ids) (im fr : Ledger) (φ' : Ids) (im' fr' : Ledger) : Prop where
  ids : φ <+: φ'
  im : ∀ p ∈ im, p ∈ im'
  fr : FrS C fr fr'
theorem ExtS.refl (C : Act) (φ : Ids) (im fr : Ledger) : ExtS C φ im fr φ im fr := ⟨List.prefix_rfl, fun _ h => h, FrS.refl C fr⟩
theorem ExtS.trans {C : Act} {φ im fr φ' im' fr' φ'' im'' fr''} (x : ExtS C φ im fr φ' im' fr') (y : ExtS C φ' im' fr' φ'' im'' fr'') : ExtS C φ im fr φ'' im'' fr'' :=
  ⟨x.ids.trans y.ids, fun p h => y.im p (x.im p h), x.fr.trans y.fr⟩
theorem Ext.toS {C : Act} {φ im fr φ' im' fr'} (x : Ext φ im fr φ' im' fr') : ExtS C φ im fr φ' im' fr' := ⟨x.ids, x.im, fun p h _ => x.fr p h⟩

section states
variable {G : Gd} {C : Act} {ρ ρ' : LEnv} {σ : AHeap} {φ : Ids} {mt im fr : Ledger} {m : Str → Option Value} {h h' : Heap} {n : Nat}

theorem SS.frNot (st : SS G C ρ σ φ mt im fr m h) {a : Addr} {o : Obj} (ho : h.get? a = some o) (hd : NoFr o) (hl : o.cls ≠ .type "list") : ∀ q ∈ fr, q.1 ≠ a := by
  intro q hq e
  have g := st.frIn hq
  rw [e, ho] at g
  cases g
  rcases st.frd q hq with ⟨es, n, e'⟩ | ⟨v, e'⟩ | e'
  · exact hd.1 es n e'
  · exact hd.2 v e'
  · exact hl e'.1

theorem SS.setIm (st : SS G C ρ σ φ mt im fr m h) {a : Addr} {o o' : Obj} (hm : (a, o) ∈ im) (hk : o.cls ≠ .type "tuple" ∧ o.cls ≠ .type "list") 
    (hd' : NoFr o') (hs : ∀ b ob, b ≠ a → h.get? b = some ob → h'.get? b = some ob) (hg : h'.get? a = some o') : SS G C ρ σ φ mt (putAt a o' im) fr m h' := by
  have D := st.N (a, o) (List.mem_append.mpr (.inr (List.mem_append.mpr (.inl hm))))
  have hi : ∀ p ∈ im, (p.2.cls = .type "tuple" ∨ p.2.cls = .type "list") → p ∈ putAt a o' im := fun p hp hcl => putAt_other hp fun e => by
    have g := st.imIn hp
    have g' := st.imIn hm
    rw [e] at g
    dsimp only at g'
    rw [g'] at g
    cases g
    rcases hcl with h | h
    · exact hk.1 h
    · exact hk.2 h
  have frn := st.frNot (st.imIn hm) (st.imk _ hm) hk.2
  have F' : Fr G.hb C.env.locals h' m := by
    obtain ⟨oL, es, ep, hL, r⟩ := st.F.ns
    refine ⟨⟨oL, es, ep, hs _ _ (Ne.symm D.2.1) hL, r⟩, fun b ob e => hs b ob (fun q => ?_) (st.F.keep b ob e), st.F.above⟩
    subst q
    have := D.2.2
    rw [e] at this; exact (no_sn this).elim
  have N' : News G.hb C.env.locals h' (mt ++ (putAt a o' im ++ fr)) := fun p hp => by
    rcases List.mem_append.mp hp with hp | hp
    · have P := st.N p (List.mem_append.mpr (.inl hp))
      exact ⟨hs _ _ (st.sep p hp (a, o) (List.mem_append.mpr (.inl hm))) P.1, P.2⟩
    · rcases List.mem_append.mp hp with hp | hp
      · rcases mem_putAt hp with ⟨hp, hn⟩ | rfl
        · have P := st.N p (List.mem_append.mpr (.inr (List.mem_append.mpr (.inl hp))))
          exact ⟨hs _ _ hn P.1, P.2⟩
        · exact ⟨hg, D.2⟩
      · have P := st.N p (List.mem_append.mpr (.inr (List.mem_append.mpr (.inr hp))))
        exact ⟨hs _ _ (frn p hp) P.1, P.2⟩
  refine { st with F := F', N := N', sep := ?_, sepf := ?_, imk := ?_, hp := st.hp.mono hi, loc := ?_, cell := ?_ }
  · intro p hp q hq
    rcases List.mem_append.mp hq with hq | hq
    · rcases mem_putAt hq with ⟨hq, _⟩ | rfl
      · exact st.sep p hp q (List.mem_append.mpr (.inl hq))
      · exact st.sep p hp (a, o) (List.mem_append.mpr (.inl hm))
    · exact st.sep p hp q (List.mem_append.mpr (.inr hq))
  · intro p hp q hq
    rcases mem_putAt hp with ⟨hp, _⟩ | rfl
    · exact st.sepf p hp q hq
    · exact st.sepf (a, o) hm q hq
  · intro q hq
    rcases mem_putAt hq with ⟨hq, _⟩ | rfl
    · exact st.imk q hq
    · exact hd'
  · intro x av e k
    obtain ⟨v, e1, e2⟩ := st.loc x av e k
    exact ⟨v, e1, Rep.mono G List.prefix_rfl hi e2⟩
  · intro x k
    obtain ⟨c, ob, v₀, e1, e2, e3, e4⟩ := st.cell x k
    refine ⟨c, ob, v₀, e1, e2, e3, fun av e => ?_⟩
    obtain ⟨v, e5, e6⟩ := e4 av e
    exact ⟨v, e5, Rep.mono G List.prefix_rfl hi e6⟩

theorem block_plain (hC : C.Ok n) : (C.env.scope.kind == .class || (C.env.scope.kind == .module && C.env.locals != C.env.globals)) = false := by rw [hC.kind]; rfl

theorem store_one {s : Shared} {E : Value → Shared → Prop} {Q : Unit → Shared → Prop} (st : SS G C ρ σ φ mt im fr m s.heap) (hC : C.Ok n) {x : Str} {av : AV} {v : Value} (e : ρ.set x av = some ρ') (r : Rep G φ im av v)
    (hQ : ∀ h' m' fr' tk, SS G C ρ' σ φ mt im fr' m' h' → FrS C fr fr' → (ρ.names.lookup x = some .local → fr' = fr) → Q () { s with heap := h', toks := tk }) : wpAny (model G.prog G.w) C.A (storeName C.env x v) Q E s := by
  rcases set_of e with ⟨hk, e'⟩ | ⟨hk, e'⟩
  · clear e
    subst e'
    have hkind := st.kinds x _ hk
    refine wpAny_storeName_local hkind st.F.ns (fun h' hn hs => ?_) (block_plain hC)
    refine hQ h' (fun y => if y = x then some v else m y) fr (s.toks + 1) ?_ (FrS.refl C fr) (fun _ => rfl)
    refine { st with F := st.F.set hn hs, N := st.N.set hs, kinds := st.kinds, loc := ?_, cell := ?_ }
    · exact upd_read (R := Rep G φ im) (K := fun y => ρ.names.lookup y = some .local) st.loc r
    · exact st.cell
  · clear e
    subst e'
    have hkind := st.kinds x _ hk
    obtain ⟨c, o, v₀, e1, e2, e3, e4⟩ := st.cell x (.inl hk)
    have D := st.N (c, o) (List.mem_append.mpr (.inr (List.mem_append.mpr (.inr e2))))
    refine wpAny_storeName_cell hC.kind hkind e1 ⟨o, st.frIn e2, e3⟩ fun h' hv hs => ?_
    obtain ⟨o', ho', hd'⟩ := hv
    have F' : Fr G.hb C.env.locals h' m := ⟨st.F.ns.sameBut hs (Ne.symm D.2.1), fun b ob e => (hs.2 b (fun q => by subst q; have := D.2.2; rw [e] at this; exact (no_sn this).elim)).trans (st.F.keep b ob e), st.F.above⟩
    have imn : ∀ p ∈ im, p.1 ≠ c := fun p hp q => by
      have g := st.imIn hp
      rw [q, st.frIn e2] at g
      cases g
      exact (st.imk _ hp).2 _ e3
    have N' : News G.hb C.env.locals h' (mt ++ (im ++ putAt c o' fr)) := fun p hp => by
      rcases List.mem_append.mp hp with hp | hp
      · have P := st.N p (List.mem_append.mpr (.inl hp))
        exact ⟨(hs.2 _ (st.sep p hp (c, o) (List.mem_append.mpr (.inr e2)))).trans P.1, P.2⟩
      · rcases List.mem_append.mp hp with hp | hp
        · have P := st.N p (List.mem_append.mpr (.inr (List.mem_append.mpr (.inl hp))))
          exact ⟨(hs.2 _ (imn p hp)).trans P.1, P.2⟩
        · rcases mem_putAt hp with ⟨hp, hn⟩ | rfl
          · have P := st.N p (List.mem_append.mpr (.inr (List.mem_append.mpr (.inr hp))))
            exact ⟨(hs.2 _ hn).trans P.1, P.2⟩
          · exact ⟨ho', D.2⟩
    refine hQ h' m (putAt c o' fr) s.toks ?_ (fun p hp hn => ?_) (fun k => by rw [k] at hk; cases hk)
    · refine { st with F := F', N := N', sep := ?_, sepf := ?_, frd := ?_, kinds := st.kinds, loc := st.loc, cell := ?_, frm := ?_ }
      · intro p hp q hq
        rcases List.mem_append.mp hq with hq | hq
        · exact st.sep p hp q (List.mem_append.mpr (.inl hq))
        · rcases mem_putAt hq with ⟨hq, _⟩ | rfl
          · exact st.sep p hp q (List.mem_append.mpr (.inr hq))
          · exact st.sep p hp (c, o) (List.mem_append.mpr (.inr e2))
      · intro p hp q hq
        rcases mem_putAt hq with ⟨hq, _⟩ | rfl
        · exact st.sepf p hp q hq
        · exact st.sepf p hp (c, o) e2
      · intro q hq
        rcases mem_putAt hq with ⟨hq, _⟩ | rfl
        · exact st.frd q hq
        · exact .inr (.inl ⟨_, hd'⟩)
      · intro y k
        obtain ⟨c', ob, v', f1, f2, f3, f4⟩ := st.cell y k
        by_cases q : y = x
        · subst q
          rw [e1] at f1
          cases f1
          refine ⟨c, o', some v, e1, putAt_self e2, hd', fun a ea => ?_⟩
          change upd ρ.cells y av y = some a at ea
          unfold upd at ea
          rw [if_pos rfl] at ea
          cases ea
          exact ⟨v, rfl, r⟩
        · refine ⟨c', ob, v', f1, putAt_other f2 fun ec => q (st.apart y x c' f1 (by rw [e1]; exact congrArg some (Eq.symm ec))), f3, fun a ea => ?_⟩
          change upd ρ.cells x av y = some a at ea
          unfold upd at ea
          rw [if_neg q] at ea
          exact f4 a ea
      · intro env he
        obtain ⟨k1, b, k2, k3⟩ := st.frm env he
        refine ⟨k1, b, k2, ?_⟩
        rcases k3 with rfl | ⟨ob, es, nn, f1, f2⟩
        · exact .inl rfl
        · refine .inr ⟨ob, es, nn, putAt_other f1 fun ec => ?_, f2⟩
          have g := st.frIn f1
          have g' := st.frIn e2
          dsimp only at g g' ec
          rw [ec, g'] at g
          cases g
          rw [e3] at f2; cases f2
    · exact .self (putAt_other hp fun ec => hn x (by rw [e1, ec]))
end states
end Mine
end
section
namespace Mine
open PySem PySem.W PySem.Calls PyProof.Rows

section
open AutoSeq1 (wpAny_loadPart')
theorem enumNewT (l : Addr) (items : Array Value) (n : Nat) (dct : Option Addr) (sl : Array (Option Value)) :
    Meets (Builtin.«enumerate.__new__» ⟨[.type "enumerate", .ref l], []⟩) (fun _ R s => s.heap.get? l = some { cls := .type "tuple", dict := dct, data := .seq items n, slots := sl } ∧
      R (.ok (.ret (.ref (s.heap.push { cls := .type "tuple_iterator", data := .fields #[.ref l, .int 0 0] }).objs.size)))
        { s with heap := (s.heap.push { cls := .type "tuple_iterator", data := .fields #[.ref l, .int 0 0] }).push { cls := .type "enumerate", data := .fields #[.none, .bool false, .ref s.heap.objs.size, rawInt 0, .none, .none] } }) :=
  .of_wp fun prog w A R s h => by
    obtain ⟨hp, g, d, tk, os⟩ := s; obtain ⟨hl, h⟩ := h
    have hsub := sub_enumerate
    have hL : Heap.IsTuple (Shared.heap ⟨hp, g, d, tk, os⟩) l items := ⟨_, hl, rfl, n, rfl⟩
    wp_walk using wpAny_loadPart' hl
    refine wpAny_stack_any fun st => wpAny_pure ?_
    split
    · rename_i c _ _ _ _ _
      cases (c == Value.type "enumerate")
      · wp_walk using wpAny_loadPart' hl, wpAny_pyIter_tuple hL
        exact ⟨_, rfl, h⟩
      · wp_walk using wpAny_loadPart' hl, wpAny_pyIter_tuple hL
        exact ⟨_, rfl, h⟩
    · wp_walk using wpAny_loadPart' hl, wpAny_pyIter_tuple hL
      exact ⟨_, rfl, h⟩
end

section
variable {prog : Program} {w : World} {A : Around} {E : Value → Shared → Prop} {s : Shared}
theorem enumTuple {l : Addr} {items : Array Value} {Q : Value → Shared → Prop} (hL : s.heap.IsTuple l items)
    (h : ∀ h', IsEnum h' (s.heap.objs.size + 1) s.heap.objs.size 0 .none → h'.IsTupleIter s.heap.objs.size l 0 → h'.objs.size = s.heap.objs.size + 2 →
      (∀ b o, s.heap.get? b = some o → h'.get? b = some o) → Q (.ref (s.heap.objs.size + 1)) { s with heap := h' }) :
    wpAny (model prog w) A (call (.type "enumerate") [.ref l]) Q E s := by
  obtain ⟨⟨c, dct, dt, sl⟩, hl, hc, n, hd⟩ := hL
  replace hc : c = .type "tuple" := hc
  replace hd : dt = .seq items n := hd
  subst hc hd
  refine callType_new F.called_enumerate (by decide) (F.typeCall_enumerate_1 _) (F.newCall_enumerate_1 _) (fun obj => F.args_object_init_2 obj _) F.entry_enumerate_new
    (enumNewT l items n dct sl) ⟨hl, ?_⟩
  have hz : (s.heap.push { cls := .type "tuple_iterator", data := .fields #[.ref l, .int 0 0] }).objs.size = s.heap.objs.size + 1 := Heap.size_push ..
  show _ ∧ _
  rw [hz]
  have he : IsEnum ((s.heap.push { cls := .type "tuple_iterator", data := .fields #[.ref l, .int 0 0] }).push
      { cls := .type "enumerate", data := .fields #[.none, .bool false, .ref s.heap.objs.size, rawInt 0, .none, .none] }) (s.heap.objs.size + 1) s.heap.objs.size 0 .none := by
    have := Heap.get?_push_size (s.heap.push { cls := .type "tuple_iterator", data := .fields #[.ref l, .int 0 0] })
      (o := { cls := .type "enumerate", data := .fields #[.none, .bool false, .ref s.heap.objs.size, rawInt 0, .none, .none] }) rfl
    rw [hz] at this; exact this
  refine ⟨⟨_, he, rfl⟩, h _ he ⟨_, Heap.get?_push_of_some _ (Heap.get?_push_size _ rfl), rfl, rfl⟩ (by rw [Heap.size_push, hz]) fun b o x => Heap.get?_push_of_some _ (Heap.get?_push_of_some _ x)⟩

theorem nextOfTupleItem {it l : Addr} {i : Nat} {items} {x : Value} {Q : Value → Shared → Prop} (hit : s.heap.IsTupleIter it l i)
    (hl : s.heap.IsTuple l items) (hx : items[i]? = some x)
    (hQ : ∀ h', h'.IsTupleIter it l (i + 1) → Heap.SameBut it s.heap h' → Q x { s with heap := h' }) :
    wpAny (model prog w) A (Builtin.SmallTypes.nextOf (.ref it)) Q E s := by
  obtain ⟨o, ho, hc, hd⟩ := id hit
  obtain ⟨ol, hol, _, nl, hdl⟩ := hl
  unfold Builtin.SmallTypes.nextOf
  refine wpAny_bind (wpAny_callSpecial?_slot (name := Str.ofString "__next__") hit.typeIs F.slot_tuple_iterator_next
    (wpAny_call_entry F.slot_tuple_iterator_next hit.typeIs F.entry_tuple_iterator_next ?_ (F.args_tuple_iterator_next_1 _)))
  show wpAny _ _ (field (.ref it) 0 >>= _) _ _ s
  refine wpAny_bind (wpAny_field ho hd (x := .ref l) rfl ?_)
  show wpAny _ _ (if (Value.ref l == Value.none) = true then _ else _) _ _ s
  rw [if_neg (show ¬ ((Value.ref l == Value.none) = true) from Bool.false_ne_true)]
  show wpAny _ _ (field (.ref it) 1 >>= _) _ _ s
  refine wpAny_bind (wpAny_field ho hd (x := .int i 0) rfl ?_)
  show wpAny _ _ (seqItems? (.ref l) >>= _) _ _ s
  refine wpAny_bind (wpAny_seqItems hol hdl ?_)
  simp only [Int.toNat_natCast, hx]
  refine wpAny_bind (wpAny_setField ho hd (by simp) (wpAny_pure ⟨x, rfl, wpAny_pure (hQ _ ?_ (Heap.SameBut.update ..))⟩))
  exact ⟨_, Heap.get?_update_self _ ho (Obj.isFreed_of_fields (Obj.data_mapFields hd _)), (Obj.cls_mapFields ..).trans hc, by
    rw [Obj.data_mapFields hd]; simp [rawInt]⟩
theorem nextOfTupleEnd {it l : Addr} {i : Nat} {items} {Q : Value → Shared → Prop} (hh : A.handled = none)
    (hit : s.heap.IsTupleIter it l i) (hl : s.heap.IsTuple l items) (hx : items[i]? = none)
    (hE : ∀ h' e, Heap.ExtBut it s.heap h' → (∃ o, h'.get? e = some o ∧ o.cls = .type "StopIteration") → E (.ref e) { s with heap := h' }) :
    wpAny (model prog w) A (Builtin.SmallTypes.nextOf (.ref it)) Q E s := by
  obtain ⟨o, ho, hc, hd⟩ := id hit
  obtain ⟨ol, hol, _, nl, hdl⟩ := hl
  unfold Builtin.SmallTypes.nextOf
  refine wpAny_bind (wpAny_callSpecial?_slot (name := Str.ofString "__next__") hit.typeIs F.slot_tuple_iterator_next
    (wpAny_call_entry F.slot_tuple_iterator_next hit.typeIs F.entry_tuple_iterator_next ?_ (F.args_tuple_iterator_next_1 _)))
  show wpAny _ _ (field (.ref it) 0 >>= _) _ _ s
  refine wpAny_bind (wpAny_field ho hd (x := .ref l) rfl ?_)
  show wpAny _ _ (if (Value.ref l == Value.none) = true then _ else _) _ _ s
  rw [if_neg (show ¬ ((Value.ref l == Value.none) = true) from Bool.false_ne_true)]
  show wpAny _ _ (field (.ref it) 1 >>= _) _ _ s
  refine wpAny_bind (wpAny_field ho hd (x := .int i 0) rfl ?_)
  show wpAny _ _ (seqItems? (.ref l) >>= _) _ _ s
  refine wpAny_bind (wpAny_seqItems hol hdl ?_)
  simp only [Int.toNat_natCast, hx]
  refine wpAny_bind (wpAny_rule (wpAny_bind (wpAny_setField ho hd (by simp) ?_)))
  show wpAny _ _ (newExc (.type "StopIteration") [] >>= _) _ _ _
  refine wpAny_bind ?_
  simp only [newExc, newTuple]
  refine wpAny_bind (wpAny_newObj_type ?_ (by size_fits))
  refine wpAny_bind (m := firstArgMember _ _) (wpAny_of_eq (a := Value.none) (by first | rfl | (simp only [firstArgMember]; rfl)) ?_)
  refine wpAny_newObj_type ?_ (by size_fits)
  simp only [raiseNew]
  refine wpAny_bind (wpAny_handled ?_)
  first | rw [show A.in1.handled = none from hh] | rw [hh]
  refine wpAny_bind (wpAny_pure (wpAny_throw ?_))
  exact hE _ _ (((Heap.SameBut.update ..).extBut.push _).push _) ⟨_, Heap.get?_push_size _ rfl, rfl⟩
theorem drawsTuple {prog : Program} {w : World} {A : Around} (hh : A.handled = none) (it l : Addr) (hne : l ≠ it) (items : Array Value) :
    Draws prog w A it [it, l] items.size (fun i v => items[i]? = some v) (fun i h => h.IsTupleIter it l i ∧ h.IsTuple l items) where
  live := fun _ _ st => let ⟨o, ho, _⟩ := st.1; ⟨o, ho⟩
  frame := fun _ _ _ st hk => ⟨let ⟨o, ho, r⟩ := st.1; ⟨o, hk it (by simp) o ho, r⟩, let ⟨o, ho, r⟩ := st.2; ⟨o, hk l (by simp) o ho, r⟩⟩
  item := fun i s Q E hi st hQ => by
    refine nextOfTupleItem st.1 st.2 (x := items[i]) (by simp [hi]) fun h' hit' hs' => ?_
    exact hQ _ h' s.toks (by simp [hi]) ⟨hit', st.2.extBut hs'.extBut hne⟩ hs'
  done := fun s Q E st hE => nextOfTupleEnd hh st.1 st.2 (by simp) hE
end
end Mine
end
section
namespace Mine
open PySem PySem.W PySem.Calls PyProof.Rows

noncomputable def SeqIter (o : AV) (v : Value) (k : Nat) (ob : Obj) : Prop := ∃ l, v = .ref l ∧ ob.cls = .type (if isTupAV o then "tuple_iterator" else "list_iterator") ∧ ob.data = .fields #[.ref l, .int k 0]
theorem SeqIter.plain {o : AV} {v : Value} {k : Nat} {ob : Obj} (h : SeqIter o v k ob) : (ob.cls ≠ .type "tuple" ∧ ob.cls ≠ .type "list") ∧ NoFr ob := by
  obtain ⟨l, _, hc, hd⟩ := h
  refine ⟨?_, fun es n e => (by rw [hd] at e; cases e), fun v e => (by rw [hd] at e; cases e)⟩
  rw [hc]
  cases isTupAV o <;> exact ⟨fun e => (by injection e with e; revert e; decide), fun e => (by injection e with e; revert e; decide)⟩

noncomputable abbrev enumObj (I : Addr) (k : Nat) (old : Value) : Obj := { cls := .type "enumerate", dict := none, data := .fields #[.none, .bool false, .ref I, rawInt k, .none, old], slots := #[] }
noncomputable abbrev rangeObj (k n : Nat) : Obj := { cls := .type "range_iterator", dict := none, data := .fields #[rawInt k, rawInt ((n : Int) - k), rawInt 1], slots := #[] }

noncomputable def ItRep (G : Gd) (src : Src) (k : Nat) (it : Value) (its : List Addr) (φ : Ids) (im : Ledger) : Prop := match src with
  | .seq o => ∃ I v ob, it = .ref I ∧ its = [I] ∧ Rep G φ im o v ∧ (I, ob) ∈ im ∧ SeqIter o v k ob
  | .enum o => ∃ e I v ob old, it = .ref e ∧ its = [e, I] ∧ e ≠ I ∧ Rep G φ im o v ∧ (I, ob) ∈ im ∧ SeqIter o v k ob ∧ (e, enumObj I k old) ∈ im
  | .range n => ∃ I, it = .ref I ∧ its = [I] ∧ k ≤ n ∧ n ≤ sizeCap ∧ (I, rangeObj k n) ∈ im
theorem ItRep.mono {G : Gd} {src : Src} {k : Nat} {it : Value} {its : List Addr} {φ φ' : Ids} {im im' : Ledger} (h : ItRep G src k it its φ im) (hφ : φ <+: φ') (hi : ∀ p ∈ im, p ∈ im') : ItRep G src k it its φ' im' := by
  induction src using Src.casesOn with
  | seq o => obtain ⟨I, v, ob, e1, e2, r, hm, si⟩ := h; exact ⟨I, v, ob, e1, e2, Rep.mono G hφ (fun p hp _ => hi p hp) r, hi _ hm, si⟩
  | enum o => obtain ⟨e, I, v, ob, old, e1, e2, hne, r, hm, si, he⟩ := h; exact ⟨e, I, v, ob, old, e1, e2, hne, Rep.mono G hφ (fun p hp _ => hi p hp) r, hi _ hm, si, hi _ he⟩
  | range n => obtain ⟨I, e1, e2, hk, hz, hm⟩ := h; exact ⟨I, e1, e2, hk, hz, hi _ hm⟩

section states
variable {G : Gd} {C : Act} {ρ : LEnv} {σ : AHeap} {φ : Ids} {mt im fr : Ledger} {m : Str → Option Value} {h : Heap} {n : Nat} {E : Value → Shared → Prop} {s : Shared}

theorem seqV_iter {o : AV} {v : Value} {l : List AV} {k : Nat} {ob : Obj} {I : Addr} (sv : SeqV G φ im h v l (isTupAV o)) (si : SeqIter o v k ob) (hI : h.get? I = some ob) :
    ∃ a vs, v = .ref a ∧ RepL G φ im l vs ∧ l.length ≤ sizeCap ∧ ((isTupAV o = false ∧ h.IsList a vs.toArray ∧ h.IsListIter I a k) ∨ (isTupAV o = true ∧ h.IsTuple a vs.toArray ∧ h.IsTupleIter I a k)) := by
  obtain ⟨a, vs, rfl, rl, hl, hx⟩ := sv.out
  obtain ⟨a', e, hc, hd⟩ := si
  cases e
  refine ⟨a, vs, rfl, rl, hl, ?_⟩
  rcases hx with ⟨e, hx⟩ | ⟨e, hx⟩
  · rw [e] at hc; exact .inl ⟨e, hx, ob, hI, hc, hd⟩
  · rw [e] at hc; exact .inr ⟨e, hx, ob, hI, hc, hd⟩

theorem listIter_seq {o : AV} {a I : Addr} {k : Nat} (e : isTupAV o = false) {h' : Heap} (x : h'.IsListIter I a k) : ∃ ob, h'.get? I = some ob ∧ SeqIter o (.ref a) k ob := by
  obtain ⟨ob, ho, hc, hd⟩ := x
  exact ⟨ob, ho, a, rfl, by rw [e]; exact hc, hd⟩
theorem tupleIter_seq {o : AV} {a I : Addr} {k : Nat} (e : isTupAV o = true) {h' : Heap} (x : h'.IsTupleIter I a k) : ∃ ob, h'.get? I = some ob ∧ SeqIter o (.ref a) k ob := by
  obtain ⟨ob, ho, hc, hd⟩ := x
  exact ⟨ob, ho, a, rfl, by rw [e]; exact hc, hd⟩

theorem SS.dropIm (st : SS G C ρ σ φ mt im fr m h) {a : Addr} {o : Obj} {h' : Heap} (hm : (a, o) ∈ im) (hk : o.cls ≠ .type "tuple" ∧ o.cls ≠ .type "list") (hs : ∀ b ob, b ≠ a → h.get? b = some ob → h'.get? b = some ob) :
    SS G C ρ σ φ mt (im.filter fun p => decide (p.1 ≠ a)) fr m h' := by
  have D := st.N (a, o) (List.mem_append.mpr (.inr (List.mem_append.mpr (.inl hm))))
  have hi : ∀ p ∈ im, (p.2.cls = .type "tuple" ∨ p.2.cls = .type "list") → p ∈ im.filter fun p => decide (p.1 ≠ a) := fun p hp hcl => List.mem_filter.mpr ⟨hp, decide_eq_true fun e => by
    have g := st.imIn hp
    have g' := st.imIn hm
    rw [e] at g
    dsimp only at g'
    rw [g'] at g
    cases g
    rcases hcl with h | h
    · exact hk.1 h
    · exact hk.2 h⟩
  have sub : ∀ p ∈ im.filter (fun p => decide (p.1 ≠ a)), p ∈ im ∧ p.1 ≠ a := fun p hp => ⟨(List.mem_filter.mp hp).1, of_decide_eq_true (List.mem_filter.mp hp).2⟩
  have frn := st.frNot (st.imIn hm) (st.imk _ hm) hk.2
  have F' : Fr G.hb C.env.locals h' m := by
    obtain ⟨oL, es, ep, hL, r⟩ := st.F.ns
    refine ⟨⟨oL, es, ep, hs _ _ (Ne.symm D.2.1) hL, r⟩, fun b ob e => hs b ob (fun q => ?_) (st.F.keep b ob e), st.F.above⟩
    subst q
    have := D.2.2
    rw [e] at this; exact (no_sn this).elim
  have N' : News G.hb C.env.locals h' (mt ++ ((im.filter fun p => decide (p.1 ≠ a)) ++ fr)) := fun p hp => by
    rcases List.mem_append.mp hp with hp | hp
    · have P := st.N p (List.mem_append.mpr (.inl hp))
      exact ⟨hs _ _ (st.sep p hp (a, o) (List.mem_append.mpr (.inl hm))) P.1, P.2⟩
    · rcases List.mem_append.mp hp with hp | hp
      · have P := st.N p (List.mem_append.mpr (.inr (List.mem_append.mpr (.inl (sub p hp).1))))
        exact ⟨hs _ _ (sub p hp).2 P.1, P.2⟩
      · have P := st.N p (List.mem_append.mpr (.inr (List.mem_append.mpr (.inr hp))))
        exact ⟨hs _ _ (frn p hp) P.1, P.2⟩
  refine { st with F := F', N := N', sep := ?_, sepf := fun p hp q hq => st.sepf p (sub p hp).1 q hq, imk := ?_, hp := st.hp.mono hi, loc := ?_, cell := ?_ }
  · intro p hp q hq
    rcases List.mem_append.mp hq with hq | hq
    · exact st.sep p hp q (List.mem_append.mpr (.inl (sub q hq).1))
    · exact st.sep p hp q (List.mem_append.mpr (.inr hq))
  · intro q hq
    exact st.imk q (sub q hq).1
  · intro x av e k
    obtain ⟨v, e1, e2⟩ := st.loc x av e k
    exact ⟨v, e1, Rep.mono G List.prefix_rfl hi e2⟩
  · intro x k
    obtain ⟨c, ob, v₀, e1, e2, e3, e4⟩ := st.cell x k
    refine ⟨c, ob, v₀, e1, e2, e3, fun av e => ?_⟩
    obtain ⟨v, e5, e6⟩ := e4 av e
    exact ⟨v, e5, Rep.mono G List.prefix_rfl hi e6⟩

noncomputable def Off (its : List Addr) (im im' : Ledger) : Prop := ∀ p ∈ im, p.1 ∉ its → p ∈ im'
theorem Off.put {its : List Addr} {im : Ledger} {a : Addr} {o : Obj} (h : a ∈ its) : Off its im (putAt a o im) := fun p hp hn => putAt_other hp fun e => hn (e ▸ h)
theorem Off.trans {its : List Addr} {a b c : Ledger} (x : Off its a b) (y : Off its b c) : Off its a c := fun p hp hn => y p (x p hp hn) hn
theorem Off.drop {its : List Addr} {im : Ledger} {a : Addr} (h : a ∈ its) : Off its im (im.filter fun p => decide (p.1 ≠ a)) := fun p hp hn => List.mem_filter.mpr ⟨hp, decide_eq_true fun e => hn (e ▸ h)⟩
theorem Off.cons {its : List Addr} {im : Ledger} (p : Addr × Obj) : Off its im (p :: im) := fun _ h _ => .tail _ h
theorem Off.rep {its : List Addr} {im im' : Ledger} (x : Off its im im') (hk : ∀ p ∈ im, p.1 ∈ its → p.2.cls ≠ .type "tuple" ∧ p.2.cls ≠ .type "list") : ∀ p ∈ im, (p.2.cls = .type "tuple" ∨ p.2.cls = .type "list") → p ∈ im' := fun p hp hc =>
  x p hp fun hi => by
    have := hk p hp hi
    rcases hc with h | h
    · exact this.1 h
    · exact this.2 h
theorem SS.one (st : SS G C ρ σ φ mt im fr m h) {a : Addr} {o o' : Obj} (h1 : (a, o) ∈ im) (h2 : (a, o') ∈ im) : o = o' := by
  have g1 := st.imIn h1
  have g2 := st.imIn h2
  dsimp only at g1 g2
  rw [g1] at g2
  exact Option.some.inj g2

theorem next_seq (st : SS G C ρ σ φ mt im fr m s.heap) (hC : C.Ok n) {o : AV} {k : Nat} {it : Value} {its : List Addr} (ir : ItRep G (.seq o) k it its φ im) {Q : Option Value → Shared → Prop} {K : Res (Option AV) → Prop} (hf : K .fail → False)
    (hs : K (srcNext (.seq o) k σ))
    (hnone : K (.ok none σ) → ∀ h' im' tk, Off its im im' → SS G C ρ σ φ mt im' fr m h' → Q none { s with heap := h', toks := tk })
    (hsome : ∀ av v h' im' tk, K (.ok (some av) σ) → Off its im im' → SS G C ρ σ φ mt im' fr m h' → ItRep G (.seq o) (k + 1) it its φ im' → Rep G φ im' av v → Q (some v) { s with heap := h', toks := tk }) :
    wpAny (model G.prog G.w) C.A (pyNext it) Q E s := by
  obtain ⟨I, v, ob, rfl, rfl, r, hm, si⟩ := ir
  have hI := st.imIn hm
  dsimp only at hI
  obtain ⟨l, sv, hs⟩ := seq_of st r (k := fun l => (pure l[k]? : M (Option AV))) (K := K) hf hs
  obtain ⟨a, vs, rfl, rl, hlen, hx⟩ := seqV_iter sv si hI
  have pl := si.plain
  induction e : l[k]? using Option.casesOn with
  | none =>
    have ev : vs.toArray[k]? = none := by
      have h1 := rl.length
      rw [List.getElem?_eq_none_iff] at e
      simp
      omega
    change K (.ok l[k]? σ) at hs
    rw [e] at hs
    have fin : ∀ h', Heap.ExtBut I s.heap h' → Q none { s with heap := h' } := fun h' he => hnone hs h' _ s.toks (Off.drop (List.mem_singleton.mpr rfl)) (st.dropIm hm pl.1 fun b ob hb hg => he b ob hb hg)
    rcases hx with ⟨_, hl, hi⟩ | ⟨_, hl, hi⟩
    · exact wpAny_pyNext_list_end hC.hd hi hl ev fin
    · exact wpAny_pyNext_tuple_end hC.hd hi hl ev fin
  | some av =>
    obtain ⟨u, eu, ru⟩ := rl.get e
    change K (.ok l[k]? σ) at hs
    rw [e] at hs
    have fin : ∀ h' ob', h'.get? I = some ob' → SeqIter o (.ref a) (k + 1) ob' → Heap.SameBut I s.heap h' → Q (some u) { s with heap := h' } := fun h' ob' ho' si' hsm => by
      have hk : ∀ p ∈ im, p.1 ∈ [I] → p.2.cls ≠ .type "tuple" ∧ p.2.cls ≠ .type "list" := fun p hp hpi => by
        rw [List.mem_singleton] at hpi
        obtain ⟨p1, p2⟩ := p
        dsimp only at hpi
        subst hpi
        rw [st.one hp hm]
        exact pl.1
      have off : Off [I] im (putAt I ob' im) := Off.put (List.mem_singleton.mpr rfl)
      refine hsome av u h' (putAt I ob' im) s.toks hs off (st.setIm hm pl.1 si'.plain.2 (fun b ob hb hg => (hsm.2 b hb).trans hg) ho') ?_ (Rep.mono G List.prefix_rfl (off.rep hk) ru)
      exact ⟨I, _, ob', rfl, rfl, Rep.mono G List.prefix_rfl (off.rep hk) r, putAt_self hm, si'⟩
    rcases hx with ⟨et, hl, hi⟩ | ⟨et, hl, hi⟩
    · exact wpAny_pyNext_list_item hi hl (by simpa using eu) fun h' hi' hsm => by
        obtain ⟨ob', ho', si'⟩ := listIter_seq et hi'
        exact fin h' ob' ho' si' hsm
    · exact wpAny_pyNext_tuple_item hi hl (by simpa using eu) fun h' hi' hsm => by
        obtain ⟨ob', ho', si'⟩ := tupleIter_seq et hi'
        exact fin h' ob' ho' si' hsm

theorem next_range (st : SS G C ρ σ φ mt im fr m s.heap) (hC : C.Ok n) {nn k : Nat} {it : Value} {its : List Addr} (ir : ItRep G (.range nn) k it its φ im) {Q : Option Value → Shared → Prop} {K : Res (Option AV) → Prop}
    (hs : K (srcNext (.range nn) k σ))
    (hnone : K (.ok none σ) → ∀ h' im' tk, Off its im im' → SS G C ρ σ φ mt im' fr m h' → Q none { s with heap := h', toks := tk })
    (hsome : ∀ av v h' im' tk, K (.ok (some av) σ) → Off its im im' → SS G C ρ σ φ mt im' fr m h' → ItRep G (.range nn) (k + 1) it its φ im' → Rep G φ im' av v → Q (some v) { s with heap := h', toks := tk }) :
    wpAny (model G.prog G.w) C.A (pyNext it) Q E s := by
  obtain ⟨I, rfl, rfl, hk, hz, hm⟩ := ir
  have hI := st.imIn hm
  have pl : ((rangeObj k nn).cls ≠ .type "tuple" ∧ (rangeObj k nn).cls ≠ .type "list") := ⟨fun e => (by injection e with e; revert e; decide), fun e => (by injection e with e; revert e; decide)⟩
  by_cases e : k < nn
  · have hs' : K (.ok (some (.int (k : Int))) σ) := by
      change K (.ok (if k < nn then some (AV.int (k : Int)) else none) σ) at hs
      rwa [if_pos e] at hs
    refine wpAny_pyNext_range_item hI (by omega) fun h' hi' hsm => ?_
    have hg : h'.get? I = some (rangeObj (k + 1) nn) := by
      have e1 : ((k + 1 : Nat) : Int) = (k : Int) + 1 := by omega
      have e2 : (nn : Int) - ((k + 1 : Nat) : Int) = (nn : Int) - k - 1 := by omega
      show h'.get? I = some { cls := .type "range_iterator", dict := none, data := .fields #[rawInt ((k + 1 : Nat) : Int), rawInt ((nn : Int) - ((k + 1 : Nat) : Int)), rawInt 1], slots := #[] }
      rw [e2, e1]
      exact hi'
    exact hsome _ _ h' (putAt I (rangeObj (k + 1) nn) im) (s.toks + 1) hs' (Off.put (List.mem_singleton.mpr rfl)) (st.setIm hm pl ⟨fun es n e => (by cases e), fun v e => (by cases e)⟩ (fun b ob hb hg => (hsm.2 b hb).trans hg) hg)
      ⟨I, rfl, rfl, by omega, hz, putAt_self hm⟩ (rep_int _ _)
  · have hs' : K (.ok none σ) := by
      change K (.ok (if k < nn then some (AV.int (k : Int)) else none) σ) at hs
      rwa [if_neg e] at hs
    refine wpAny_pyNext_range_end hC.hd hI (by omega) fun h' he => ?_
    exact hnone hs' h' _ s.toks (Off.drop (List.mem_singleton.mpr rfl)) (st.dropIm hm pl fun b ob hb hg => he b ob hb hg)
end states
end Mine
end
section
namespace Mine
open PySem PySem.W PySem.Calls PyProof.Rows

noncomputable def locTarget (ns : List (Str × NameKind)) (t : Expr) : Bool := match nameOf t with
  | some x => ns.lookup x == some .local
  | none => match tupleOf t with
    | some ts => (namesOf ts).all fun x => ns.lookup x == some .local
    | none => false

section states
variable {G : Gd} {C : Act} {ρ ρ' : LEnv} {σ : AHeap} {φ : Ids} {mt im fr : Ledger} {m : Str → Option Value} {n : Nat} {E : Value → Shared → Prop}

theorem store_all (hC : C.Ok n) {ts : List Expr} {avs : List AV} (e : Binds ρ ts avs ρ') : ∀ (vs : List Value) (s : Shared) (m : Str → Option Value) (fr : Ledger) (Q : Unit → Shared → Prop), SS G C ρ σ φ mt im fr m s.heap → RepL G φ im avs vs →
    (∀ h' m' fr' tk, SS G C ρ' σ φ mt im fr' m' h' → FrS C fr fr' → ((namesOf ts).all (fun x => ρ.names.lookup x == some .local) = true → fr' = fr) → Q () { s with heap := h', toks := tk }) →
    wpAny (model G.prog G.w) C.A (assignInOrder ((assignEach ts C.env).map (·.2)) vs) Q E s := by
  induction e with
  | nil =>
    intro vs s m fr Q st r hQ
    induction vs using List.casesOn with
    | nil => exact wpAny_pure (hQ s.heap m fr s.toks st (FrS.refl C fr) fun _ => rfl)
    | cons _ _ => unfold RepL at r; exact r.elim
  | @cons ρ ρ₁ ρ2 x p ts av avs e1 _ ih =>
    intro vs s m fr Q st r hQ
    induction vs using List.casesOn with
    | nil => unfold RepL at r; exact r.elim
    | cons v vs =>
      unfold RepL at r
      show wpAny _ _ (assignInOrder (assign (.Name x p) C.env :: (assignEach ts C.env).map (·.2)) (v :: vs)) Q E s
      refine assignInOrder_cons (wpAny_assign_Name (store_one st hC e1 r.1 fun h₁ m₁ fr₁ tk st₁ f₁ l₁ => ?_))
      refine ih vs { s with heap := h₁, toks := tk } m₁ fr₁ Q st₁ r.2 fun h' m' fr' tk' st' f' l' => hQ h' m' fr' tk' st' (f₁.trans f') fun hl => ?_
      obtain ⟨ha, hb⟩ := (Bool.and_eq_true _ _).mp (show (_ && _) = true from hl)
      rw [l' (by rw [set_names e1]; exact hb), l₁ (eq_of_beq ha)]

theorem bindNames_shape {ts : List Expr} {avs : List AV} (e : Binds ρ ts avs ρ') (env : Env) : (assignEach ts env).length = avs.length ∧ (assignEach ts env).findIdx? (·.1) = none := by
  induction e with
  | nil => exact ⟨rfl, rfl⟩
  | @cons ρ ρ₁ ρ2 x p ts av avs e1 _ ih =>
    have hh : assignEach (.Name x p :: ts) env = (false, assign (.Name x p) env) :: assignEach ts env := rfl
    rw [hh, List.length_cons, List.length_cons, ih.1, List.findIdx?_cons, ih.2]
    exact ⟨rfl, rfl⟩

theorem unpack_ok {s : Shared} (hC : C.Ok n) (st : SS G C ρ σ φ mt im fr m s.heap) {ts : List Expr} {kk : Nat} {p : Pos} {T : Addr} {avs : List AV} {us : List Value} (hT : s.heap.IsTuple T us.toArray) (rl : RepL G φ im avs us) (e : Binds ρ ts avs ρ') {Q : Unit → Shared → Prop}
    (hQ : ∀ h' m' fr' tk, SS G C ρ' σ φ mt im fr' m' h' → FrS C fr fr' → ((namesOf ts).all (fun x => ρ.names.lookup x == some .local) = true → fr' = fr) → Q () { s with heap := h', toks := tk }) :
    wpAny (model G.prog G.w) C.A (assign (.Tuple ts kk p) C.env (.ref T)) Q E s := by
  obtain ⟨h1, h2⟩ := bindNames_shape e C.env
  refine wpAny_assign_Tuple hC.hd hT (by rw [h1, List.size_toArray, rl.length]) h2 fun h' he => ?_
  have k : ∀ b o, s.heap.get? b = some o → h'.get? b = some o := fun b o g => he b o (Nat.ne_of_lt (Heap.lt_size g)) g
  exact store_all hC e us { s with heap := h' } m fr Q (st.keeps k) rl hQ

theorem targetGo_fields {s : Shared} {target : Expr} {I : Addr} {ob : Obj} {cn : String} {fs : Array Value} {v : Value} {Q : Unit → Shared → Prop} (hg : s.heap.get? I = some ob) (hc : ob.cls = .type cn) (hd : ob.data = .fields fs)
    (hn : ["enumerate", "zip", "dict_itemiterator", "dict_reverseitemiterator", "odict_iterator", "itertools.zip_longest", "itertools.pairwise"].contains cn = false) (h : Q () s) :
    wpAny (model G.prog G.w) C.A (letOwnedTupleGo target (.ref I) v) Q E s := by
  have go : ∀ a, wpAny (model G.prog G.w) C.A (do
      let o ← load I
      match o.cls, o.data with
      | .type n, .fields vs =>
        if ["enumerate", "zip", "dict_itemiterator", "dict_reverseitemiterator", "odict_iterator", "itertools.zip_longest", "itertools.pairwise"].contains n && vs[0]? == some (rawInt a) then
          rule "for.unpacks-the-owned-tuple"
          updateField I 0 .none
      | _, _ => pure () : Sem Unit) Q E s := fun a => by
    refine wpAny_bind (wpAny_load hg ?_)
    rw [hc, hd]
    dsimp only
    rw [hn]
    exact wpAny_pure h
  induction target using PySem.Expr.casesOn with
  | Tuple es k p =>
    induction v using PySem.Value.casesOn with
    | ref a => exact go a
    | _ => exact wpAny_pure h
  | List es p =>
    induction v using PySem.Value.casesOn with
    | ref a => exact go a
    | _ => exact wpAny_pure h
  | _ => exact wpAny_pure h
end states
end Mine
end
section
namespace Mine
open PySem PySem.W PySem.Calls PyProof.Rows

section states
variable {G : Gd} {C : Act} {ρ ρ' : LEnv} {σ : AHeap} {φ : Ids} {mt im fr : Ledger} {m : Str → Option Value} {n : Nat} {E : Value → Shared → Prop} {s : Shared}

theorem SS.newIm {h h' : Heap} (st : SS G C ρ σ φ mt im fr m h) {im' : Ledger} {its : List Addr} (hk : ∀ b ob, b ∉ its → h.get? b = some ob → h'.get? b = some ob)
    (hi : ∀ a ∈ its, ∃ o, (a, o) ∈ im ∧ (o.cls ≠ .type "tuple" ∧ o.cls ≠ .type "list")) (hn : ∀ p ∈ im', (p ∈ im ∧ p.1 ∉ its) ∨ (h'.get? p.1 = some p.2 ∧ p.1 ∈ its ∧ NoFr p.2)) (off : Off its im im') : SS G C ρ σ φ mt im' fr m h' := by
  have hi' : ∀ p ∈ im, (p.2.cls = .type "tuple" ∨ p.2.cls = .type "list") → p ∈ im' := off.rep fun p hp hpi => by
    obtain ⟨o, ho, hc⟩ := hi p.1 hpi
    rw [st.one (show (p.1, p.2) ∈ im from hp) ho]
    exact hc
  have D : ∀ a ∈ its, ∃ o, (a, o) ∈ im ∧ a ≠ C.env.locals ∧ G.hb.get? a = none ∧ NoFr o ∧ o.cls ≠ .type "list" := fun a ha => by
    obtain ⟨o, ho, hcl⟩ := hi a ha
    have d := st.N (a, o) (List.mem_append.mpr (.inr (List.mem_append.mpr (.inl ho))))
    exact ⟨o, ho, d.2.1, d.2.2, st.imk _ ho, hcl.2⟩
  have frn : ∀ q ∈ fr, q.1 ∉ its := fun q hq hqi => by
    obtain ⟨o, ho, _, _, hf, hl⟩ := D q.1 hqi
    exact st.frNot (st.imIn ho) hf hl q hq rfl
  have mtn : ∀ q ∈ mt, q.1 ∉ its := fun q hq hqi => by
    obtain ⟨o, ho, _⟩ := D q.1 hqi
    exact st.sep q hq _ (List.mem_append.mpr (.inl ho)) rfl
  have F' : Fr G.hb C.env.locals h' m := by
    obtain ⟨oL, es, ep, hL, r⟩ := st.F.ns
    refine ⟨⟨oL, es, ep, hk _ _ (fun q => ?_) hL, r⟩, fun b ob e => hk b ob (fun q => ?_) (st.F.keep b ob e), st.F.above⟩
    · obtain ⟨_, _, d, _⟩ := D _ q; exact d rfl
    · obtain ⟨_, _, _, d, _⟩ := D _ q; rw [e] at d; exact (no_sn d).elim
  have N' : News G.hb C.env.locals h' (mt ++ (im' ++ fr)) := fun p hp => by
    rcases List.mem_append.mp hp with hp | hp
    · have P := st.N p (List.mem_append.mpr (.inl hp))
      exact ⟨hk _ _ (mtn p hp) P.1, P.2⟩
    · rcases List.mem_append.mp hp with hp | hp
      · rcases hn p hp with ⟨hp, hpn⟩ | ⟨hg, hpi, _⟩
        · have P := st.N p (List.mem_append.mpr (.inr (List.mem_append.mpr (.inl hp))))
          exact ⟨hk _ _ hpn P.1, P.2⟩
        · obtain ⟨_, _, d1, d2, _⟩ := D _ hpi
          exact ⟨hg, d1, d2⟩
      · have P := st.N p (List.mem_append.mpr (.inr (List.mem_append.mpr (.inr hp))))
        exact ⟨hk _ _ (frn p hp) P.1, P.2⟩
  refine { st with F := F', N := N', sep := ?_, sepf := ?_, imk := ?_, hp := st.hp.mono hi', loc := ?_, cell := ?_ }
  · intro p hp q hq
    rcases List.mem_append.mp hq with hq | hq
    · rcases hn q hq with ⟨hq, _⟩ | ⟨_, hqi, _⟩
      · exact st.sep p hp q (List.mem_append.mpr (.inl hq))
      · exact fun e => mtn p hp (e ▸ hqi)
    · exact st.sep p hp q (List.mem_append.mpr (.inr hq))
  · intro p hp q hq
    rcases hn p hp with ⟨hp, _⟩ | ⟨_, hpi, _⟩
    · exact st.sepf p hp q hq
    · exact fun e => frn q hq (e ▸ hpi)
  · intro q hq
    rcases hn q hq with ⟨hq, _⟩ | ⟨_, _, hf⟩
    · exact st.imk q hq
    · exact hf
  · intro x av e k
    obtain ⟨v, e1, e2⟩ := st.loc x av e k
    exact ⟨v, e1, Rep.mono G List.prefix_rfl hi' e2⟩
  · intro x k
    obtain ⟨c, ob, v₀, e1, e2, e3, e4⟩ := st.cell x k
    refine ⟨c, ob, v₀, e1, e2, e3, fun av e => ?_⟩
    obtain ⟨v, e5, e6⟩ := e4 av e
    exact ⟨v, e5, Rep.mono G List.prefix_rfl hi' e6⟩

theorem SS.setIm2 {h h' : Heap} (st : SS G C ρ σ φ mt im fr m h) {I e : Addr} {ob oe ob' oe' : Obj} (hm : (I, ob) ∈ im) (hme : (e, oe) ∈ im) (hne : e ≠ I) (c1 : ob.cls ≠ .type "tuple" ∧ ob.cls ≠ .type "list") (c2 : oe.cls ≠ .type "tuple" ∧ oe.cls ≠ .type "list")
    (f1 : NoFr ob') (f2 : NoFr oe') (hk : ∀ b o, b ≠ e → b ≠ I → h.get? b = some o → h'.get? b = some o) (g1 : h'.get? I = some ob') (g2 : h'.get? e = some oe') : SS G C ρ σ φ mt (putAt e oe' (putAt I ob' im)) fr m h' := by
  refine st.newIm (its := [e, I]) (fun b o hb hg => hk b o (fun q => hb (by simp [q])) (fun q => hb (by simp [q])) hg) (fun a ha => ?_) (fun p hp => ?_) ((Off.put (its := [e, I]) (by simp)).trans (Off.put (by simp)))
  · simp only [List.mem_cons, List.not_mem_nil, or_false] at ha
    rcases ha with rfl | rfl
    · exact ⟨oe, hme, c2⟩
    · exact ⟨ob, hm, c1⟩
  · rcases mem_putAt hp with ⟨hp, hn⟩ | rfl
    · rcases mem_putAt hp with ⟨hp, hn'⟩ | rfl
      · exact .inl ⟨hp, by simp [hn, hn']⟩
      · exact .inr ⟨g1, by simp, f1⟩
    · exact .inr ⟨g2, by simp, f2⟩

theorem drawsEndL {A : Around} (hh : A.handled = none) (it l : Addr) (k : Nat) (items : Array Value) (hk : items[k]? = none) :
    Draws G.prog G.w A it [it, l] k (fun _ _ => False) (fun i h => i = k ∧ h.IsListIter it l k ∧ h.IsList l items) where
  live := fun _ _ st => let ⟨o, ho, _⟩ := st.2.1; ⟨o, ho⟩
  frame := fun _ _ _ st hk => ⟨st.1, st.2.1.at fun o e => hk it (by simp) o e, st.2.2.at fun o e => hk l (by simp) o e⟩
  item := fun i s Q E hi st hQ => absurd hi (by rw [st.1]; exact Nat.lt_irrefl _)
  done := fun s Q E st hE => wpAny_nextOf_list_end hh st.2.1 st.2.2 hk hE
theorem drawsEndT {A : Around} (hh : A.handled = none) (it l : Addr) (k : Nat) (items : Array Value) (hk : items[k]? = none) :
    Draws G.prog G.w A it [it, l] k (fun _ _ => False) (fun i h => i = k ∧ h.IsTupleIter it l k ∧ h.IsTuple l items) where
  live := fun _ _ st => let ⟨o, ho, _⟩ := st.2.1; ⟨o, ho⟩
  frame := fun _ _ _ st hk => ⟨st.1, let ⟨o, ho, r⟩ := st.2.1; ⟨o, hk it (by simp) o ho, r⟩, let ⟨o, ho, r⟩ := st.2.2; ⟨o, hk l (by simp) o ho, r⟩⟩
  item := fun i s Q E hi st hQ => absurd hi (by rw [st.1]; exact Nat.lt_irrefl _)
  done := fun s Q E st hE => nextOfTupleEnd hh st.2.1 st.2.2 hk hE

theorem bind_name {x : Str} {p : Pos} {av : AV} : bindTarget ρ (.Name x p) av = ρ.set x av := rfl

theorem assign_item {target : Expr} (hC : C.Ok n) (st : SS G C ρ σ φ mt im fr m s.heap) {av : AV} {v : Value} (r : Rep G φ im av v) (e : bindTarget ρ target av = some ρ') {Q : Unit → Shared → Prop}
    (hQ : ∀ h' m' fr' tk, SS G C ρ' σ φ mt im fr' m' h' → FrS C fr fr' → (locTarget ρ.names target = true → fr' = fr) → Q () { s with heap := h', toks := tk }) :
    wpAny (model G.prog G.w) C.A (assign target C.env v) Q E s := by
  rcases bindTarget_of e with ⟨x, p, rfl, e⟩ | ⟨ts, k, p, avs, rfl, rfl, _, e⟩
  · exact wpAny_assign_Name (store_one st hC e r fun h' m' fr' tk st' f l => hQ h' m' fr' tk st' f fun hl => l (eq_of_beq hl))
  · unfold Rep at r
    obtain ⟨a, us, nn, rfl, hm, rl⟩ := r
    exact unpack_ok hC st ⟨_, st.imIn hm, rfl, _, rfl⟩ rl e fun h' m' fr' tk st' f l => hQ h' m' fr' tk st' f l

theorem turn_enum_some (hC : C.Ok n) (st : SS G C ρ σ φ mt im fr m s.heap) {o : AV} {k : Nat} {e I : Addr} {a : Addr} {ob : Obj} {old : Value} (hne : e ≠ I) (r : Rep G φ im o (.ref a)) (hm : (I, ob) ∈ im) (hme : (e, enumObj I k old) ∈ im) (pl : ob.cls ≠ .type "tuple" ∧ ob.cls ≠ .type "list")
    (hE : s.heap.get? e = some (enumObj I k old)) {ts : List Expr} {kk : Nat} {p : Pos} {av : AV} {u : Value} (ru : Rep G φ im av u) {fp : List Addr} {nn : Nat} {P : Nat → Value → Prop} {St : Nat → Heap → Prop} (D : Draws G.prog G.w C.A.in1 I fp nn P St) (hst : St k s.heap) (hlt : k < nn) (hfp : e ∉ fp) (hP : ∀ x, P k x → x = u)
    (hSt : ∀ h', St (k + 1) h' → ∃ ob', h'.get? I = some ob' ∧ SeqIter o (.ref a) (k + 1) ob') {R : Option Value → Shared → Prop} {Q : Unit → Shared → Prop}
    (hR : ∀ v s₁, wpAny (model G.prog G.w) C.A (letOwnedTupleGo (.Tuple ts kk p) (.ref e) v) (fun _ s₂ => wpAny (model G.prog G.w) C.A (assign (.Tuple ts kk p) C.env v) Q E s₂) E s₁ → R (some v) s₁) (eb : Binds ρ ts [.int (k : Int), av] ρ')
    (hQ : ∀ h' m' im' fr' tk, Off [e, I] im im' → SS G C ρ' σ φ mt im' fr' m' h' → ItRep G (.enum o) (k + 1) (.ref e) [e, I] φ im' → FrS C fr fr' → (locTarget ρ.names (.Tuple ts kk p) = true → fr' = fr) → Q () { s with heap := h', toks := tk }) :
    wpAny (model G.prog G.w) C.A (pyNext (.ref e)) R E s := by
  refine wpAny_pyNext_enum_itemD D hE hst hlt hne hfp fun x h' tk hPx hout hst' htup hsz hkeep => hR _ _ ?_
  have hx := hP x hPx
  subst hx
  refine wpAny_letOwnedTupleGo_enum (s := { s with heap := h', toks := tk + 1 }) hout fun h'' he'' hsm => ?_
  replace hsm : Heap.SameBut e h' h'' := hsm
  obtain ⟨ob', hob', si'⟩ := hSt h' hst'
  clear hSt hst' hP hPx D hst hlt hfp hR
  have hIe : I ≠ e := Ne.symm hne
  have hEcls : (enumObj I k old).cls ≠ .type "tuple" ∧ (enumObj I k old).cls ≠ .type "list" := ⟨fun e => (by injection e with e; revert e; decide), fun e => (by injection e with e; revert e; decide)⟩
  have hob'' : h''.get? I = some ob' := (hsm.2 I hIe).trans hob'
  have keep2 : ∀ b o, b ≠ e → b ≠ I → s.heap.get? b = some o → h''.get? b = some o := fun b o h1 h2 g => (hsm.2 b h1).trans (hkeep b o h1 h2 g)
  have he3 : h''.get? e = some (enumObj I (k + 1) x) := he''
  have off : Off [e, I] im (putAt e (enumObj I (k + 1) x) (putAt I ob' im)) := (Off.put (its := [e, I]) (.tail _ (.head _))).trans (Off.put (.head _))
  have rsk := off.rep fun q hq hqi => by
    obtain ⟨q1, q2⟩ := q
    rcases List.mem_cons.mp hqi with rfl | hqi
    · rw [st.one hq hme]; exact hEcls
    · cases List.mem_singleton.mp hqi
      rw [st.one hq hm]; exact pl
  have htup' : Heap.IsTuple h'' s.heap.objs.size ([.int k tk, x] : List Value).toArray := ⟨_, (hsm.2 _ (Nat.ne_of_gt (Heap.lt_size hE))).trans htup, rfl, _, rfl⟩
  refine unpack_ok (s := { s with heap := h'', toks := tk + 1 }) hC (st.setIm2 hm hme hne pl hEcls si'.plain.2 ⟨fun es n e => (by cases e), fun v e => (by cases e)⟩ keep2 hob'' he3) htup' (RepL.cons (rep_int _ _) (RepL.cons (Rep.mono G List.prefix_rfl rsk ru) RepL.nil)) eb fun h3 m3 fr3 tk3 st3 f3 l3 => ?_
  exact hQ h3 m3 _ fr3 tk3 off st3 ⟨e, I, _, ob', x, rfl, rfl, hne, Rep.mono G List.prefix_rfl rsk r, putAt_other (putAt_self hm) hIe, si', putAt_self (putAt_other hme hne)⟩ f3 l3
theorem turn_enum (hC : C.Ok n) (st : SS G C ρ σ φ mt im fr m s.heap) {o : AV} {k : Nat} {e I : Addr} {v : Value} {ob : Obj} {old : Value} (hne : e ≠ I) (r : Rep G φ im o v) (hm : (I, ob) ∈ im) (si : SeqIter o v k ob) (hme : (e, enumObj I k old) ∈ im) {ts : List Expr} {kk : Nat} {p : Pos}
    {K : Res (Option AV) → Prop} (hf : K .fail → False) (hs : K (srcNext (.enum o) k σ)) {R : Option Value → Shared → Prop} {Q : Unit → Shared → Prop}
    (hR : ∀ v s₁, wpAny (model G.prog G.w) C.A (letOwnedTupleGo (.Tuple ts kk p) (.ref e) v) (fun _ s₂ => wpAny (model G.prog G.w) C.A (assign (.Tuple ts kk p) C.env v) Q E s₂) E s₁ → R (some v) s₁)
    (hnone : K (.ok none σ) → ∀ h' im' tk, Off [e, I] im im' → SS G C ρ σ φ mt im' fr m h' → R none { s with heap := h', toks := tk })
    (hsome : ∀ av, K (.ok (some av) σ) → ∃ ρ', bindTarget ρ (.Tuple ts kk p) av = some ρ' ∧ ∀ h' m' im' fr' tk, Off [e, I] im im' → SS G C ρ' σ φ mt im' fr' m' h' → ItRep G (.enum o) (k + 1) (.ref e) [e, I] φ im' → FrS C fr fr' → (locTarget ρ.names (.Tuple ts kk p) = true → fr' = fr) →
      Q () { s with heap := h', toks := tk }) :
    wpAny (model G.prog G.w) C.A (pyNext (.ref e)) R E s := by
  have hI := st.imIn hm
  have hE := st.imIn hme
  dsimp only at hI hE
  obtain ⟨l, sv, hs⟩ := seq_of st r (k := fun l => (pure (l[k]?.map fun v => AV.tup [.int (k : Int), v]) : M (Option AV))) (K := K) hf hs
  obtain ⟨a, vs, hv, rl, hlen, hx⟩ := seqV_iter sv si hI
  subst hv
  have pl := si.plain
  have haI : a ≠ I := fun q => by
    clear hR hnone hsome
    rcases hx with ⟨_, ⟨o1, g1, c1, _⟩, ⟨o2, g2, c2, _⟩⟩ | ⟨_, ⟨o1, g1, c1, _⟩, ⟨o2, g2, c2, _⟩⟩ <;>
      (rw [q, g2] at g1; cases g1; rw [c1] at c2; injection c2 with c2; revert c2; decide)
  have hae : a ≠ e := fun q => by
    clear hR hnone hsome
    rcases hx with ⟨_, ⟨o1, g1, c1, _⟩, _⟩ | ⟨_, ⟨o1, g1, c1, _⟩, _⟩ <;>
      (rw [q, hE] at g1; cases g1; injection c1 with c1; revert c1; decide)
  have none_case : l[k]? = none → ∀ (fp : List Addr) (nn : Nat) (P : Nat → Value → Prop) (St : Nat → Heap → Prop), Draws G.prog G.w C.A.in1 I fp nn P St → St nn s.heap → wpAny (model G.prog G.w) C.A (pyNext (.ref e)) R E s := fun ek fp nn P St D hst => by
    have hs' : K (.ok none σ) := by
      change K (.ok (l[k]?.map fun v => AV.tup [.int (k : Int), v]) σ) at hs
      rwa [ek] at hs
    exact wpAny_pyNext_enum_endD D hE hst fun h' he => hnone hs' h' _ s.toks (Off.drop (.tail _ (.head _))) (st.dropIm hm pl.1 fun b ob hb hg => he b ob hb hg)
  have some_case : ∀ av u, l[k]? = some av → Rep G φ im av u → ∀ (fp : List Addr) (nn : Nat) (P : Nat → Value → Prop) (St : Nat → Heap → Prop), Draws G.prog G.w C.A.in1 I fp nn P St → St k s.heap → k < nn → e ∉ fp → (∀ x, P k x → x = u) →
      (∀ h', St (k + 1) h' → ∃ ob', h'.get? I = some ob' ∧ SeqIter o (.ref a) (k + 1) ob') → wpAny (model G.prog G.w) C.A (pyNext (.ref e)) R E s := fun av u ek ru fp nn P St D hst hlt hfp hP hSt => by
    have hs' : K (.ok (some (.tup [.int (k : Int), av])) σ) := by
      change K (.ok (l[k]?.map fun v => AV.tup [.int (k : Int), v]) σ) at hs
      rwa [ek] at hs
    obtain ⟨ρ', eb, hQ⟩ := hsome _ hs'
    have eb : Binds ρ ts [.int (k : Int), av] ρ' := by
      rcases bindTarget_of eb with ⟨_, _, e, _⟩ | ⟨_, _, _, _, e, e', _, eb⟩
      · cases e
      · cases e; cases e'; exact eb
    exact turn_enum_some hC st hne r hm hme pl.1 hE ru D hst hlt hfp hP hSt hR eb hQ
  clear hR hnone hsome hs hf
  rcases hx with ⟨et, hl, hi⟩ | ⟨et, hl, hi⟩
  · have D := Draws.list (prog := G.prog) (w := G.w) (A := C.A.in1) hC.hd I a haI vs.toArray
    induction ek : l[k]? using Option.casesOn with
    | none =>
      have hk : vs.toArray[k]? = none := by rw [List.getElem?_eq_none_iff] at ek; simp; rw [rl.length]; exact ek
      exact none_case ek _ _ _ _ (drawsEndL (A := C.A.in1) hC.hd I a k vs.toArray hk) ⟨rfl, hi, hl⟩
    | some av =>
      obtain ⟨u, eu, ru⟩ := rl.get ek
      have hlt : k < vs.toArray.size := by rw [List.size_toArray]; exact (List.getElem?_eq_some_iff.mp eu).1
      exact some_case av u ek ru _ _ _ _ D ⟨hi, hl⟩ hlt (by simp [hne, Ne.symm hae]) (fun x hx => by simp at hx; rw [eu] at hx; exact (Option.some.inj hx).symm) fun h' x => listIter_seq et x.1
  · have D := drawsTuple (prog := G.prog) (w := G.w) (A := C.A.in1) hC.hd I a haI vs.toArray
    induction ek : l[k]? using Option.casesOn with
    | none =>
      have hk : vs.toArray[k]? = none := by rw [List.getElem?_eq_none_iff] at ek; simp; rw [rl.length]; exact ek
      exact none_case ek _ _ _ _ (drawsEndT (A := C.A.in1) hC.hd I a k vs.toArray hk) ⟨rfl, hi, hl⟩
    | some av =>
      obtain ⟨u, eu, ru⟩ := rl.get ek
      have hlt : k < vs.toArray.size := by rw [List.size_toArray]; exact (List.getElem?_eq_some_iff.mp eu).1
      exact some_case av u ek ru _ _ _ _ D ⟨hi, hl⟩ hlt (by simp [hne, Ne.symm hae]) (fun x hx => by simp at hx; rw [eu] at hx; exact (Option.some.inj hx).symm) fun h' x => tupleIter_seq et x.1
theorem srcFor_enum {t : Expr} {o : AV} (h : srcFor t (.enum o) = true) : ∃ ts k p, t = .Tuple ts k p := by induction t using PySem.Expr.casesOn with
  | Tuple ts k p => exact ⟨_, _, _, rfl⟩
  | _ => exact (no_ft h).elim
theorem turn_okR {target : Expr} {src : Src} (hC : C.Ok n) (st : SS G C ρ σ φ mt im fr m s.heap) {k : Nat} {it : Value} {its : List Addr} (ir : ItRep G src k it its φ im) (hsrc : srcFor target src = true)
    {K : Res (Option AV) → Prop} (hf : K .fail → False) (hs : K (srcNext src k σ)) {R : Option Value → Shared → Prop} {Q : Unit → Shared → Prop}
    (hR : ∀ v s₁, wpAny (model G.prog G.w) C.A (letOwnedTupleGo target it v) (fun _ s₂ => wpAny (model G.prog G.w) C.A (assign target C.env v) Q E s₂) E s₁ → R (some v) s₁)
    (hnone : K (.ok none σ) → ∀ h' im' tk, Off its im im' → SS G C ρ σ φ mt im' fr m h' → R none { s with heap := h', toks := tk })
    (hsome : ∀ av, K (.ok (some av) σ) → ∃ ρ', bindTarget ρ target av = some ρ' ∧ ∀ h' m' im' fr' tk, Off its im im' → SS G C ρ' σ φ mt im' fr' m' h' → ItRep G src (k + 1) it its φ im' → FrS C fr fr' → (locTarget ρ.names target = true → fr' = fr) →
      Q () { s with heap := h', toks := tk }) :
    wpAny (model G.prog G.w) C.A (pyNext it) R E s := by
  induction src using Src.casesOn with
  | seq o =>
    refine next_seq st hC ir hf hs hnone fun av v h' im' tk hK off st' ir' rv => hR _ _ ?_
    clear hR hnone ir hs hf
    obtain ⟨ρ', e, hQ⟩ := hsome av hK
    clear hsome hK
    obtain ⟨I, w, ob, ei, _, r, hm, si⟩ := id ir'
    obtain ⟨l, _, hc, hd⟩ := si
    rw [ei]
    refine targetGo_fields (s := { s with heap := h', toks := tk }) (st'.imIn hm) hc hd (by cases isTupAV o <;> decide) ?_
    exact assign_item (s := { s with heap := h', toks := tk }) hC st' rv e fun h'' m' fr' tk' st'' f l => hQ h'' m' im' fr' tk' off st'' ir' f l
  | range nn =>
    refine next_range st hC ir hs hnone fun av v h' im' tk hK off st' ir' rv => hR _ _ ?_
    clear hR hnone ir hs hf
    obtain ⟨ρ', e, hQ⟩ := hsome av hK
    clear hsome hK
    obtain ⟨I, ei, _, h1, h2, hm⟩ := id ir'
    rw [ei]
    refine targetGo_fields (s := { s with heap := h', toks := tk }) (st'.imIn hm) rfl rfl (by decide) ?_
    exact assign_item (s := { s with heap := h', toks := tk }) hC st' rv e fun h'' m' fr' tk' st'' f l => hQ h'' m' im' fr' tk' off st'' ir' f l
  | enum o =>
    obtain ⟨ts, kk, p, ht⟩ := srcFor_enum hsrc
    clear hsrc
    obtain ⟨e, I, v, ob, old, e1, e2, hne, r, hm, si, hme⟩ := ir
    subst ht e1 e2
    exact turn_enum hC st hne r hm si hme hf hs hR hnone hsome
theorem turn_ok {target : Expr} {src : Src} (hC : C.Ok n) (st : SS G C ρ σ φ mt im fr m s.heap) {k : Nat} {it : Value} {its : List Addr} (ir : ItRep G src k it its φ im) (hsrc : srcFor target src = true)
    {K : Res (Option AV) → Prop} (hf : K .fail → False) (hs : K (srcNext src k σ)) {Qn : Shared → Prop} {Q : Unit → Shared → Prop} 
    (hnone : K (.ok none σ) → ∀ h' im' tk, Off its im im' → SS G C ρ σ φ mt im' fr m h' → Qn { s with heap := h', toks := tk })
    (hsome : ∀ av, K (.ok (some av) σ) → ∃ ρ', bindTarget ρ target av = some ρ' ∧ ∀ h' m' im' fr' tk, Off its im im' → SS G C ρ' σ φ mt im' fr' m' h' → ItRep G src (k + 1) it its φ im' → FrS C fr fr' → (locTarget ρ.names target = true → fr' = fr) →
      Q () { s with heap := h', toks := tk }) :
    wpAny (model G.prog G.w) C.A (pyNext it) (fun r s₁ => match r with
      | none => Qn s₁
      | some v => wpAny (model G.prog G.w) C.A (letOwnedTupleGo target it v) (fun _ s₂ => wpAny (model G.prog G.w) C.A (assign target C.env v) Q E s₂) E s₁) E s :=
  turn_okR hC st ir hsrc hf hs (fun _ _ h => h) hnone hsome
end states
end Mine
end
section
namespace Mine
open PySem PySem.W PySem.Calls PyProof.Rows

noncomputable def closL (env : Env) : List (Str × NameKind) → List (Str × Addr) → List (Str × Addr)
  | [], acc => acc
  | (x, k) :: r, acc => if k == .free then (match env.cells.lookup x with
    | some c => closL env r ((x, c) :: acc)
    | none => closL env r acc) else closL env r acc

theorem clos_loop (env : Env) : ∀ (ns : List (Str × NameKind)) (acc : List (Str × Addr)), (∀ p ∈ ns, p.2 = .free → ∃ c, env.cells.lookup p.1 = some c) →
    (forIn ns acc (fun x r => do
      let (name, kind) := x
      if kind == .free then do
        let c ← cellOf env name
        pure (ForInStep.yield ((name, c) :: r))
      else pure (ForInStep.yield r) : Str × NameKind → List (Str × Addr) → Sem (ForInStep (List (Str × Addr)))) : Sem (List (Str × Addr))) = pure (closL env ns acc)
  | [], acc, _ => rfl
  | (x, k) :: r, acc, h => by
    rw [List.forIn_cons]
    unfold closL
    by_cases hk : (k == NameKind.free) = true
    · obtain ⟨c, hc⟩ := h (x, k) (.head _) (by simpa using hk)
      dsimp only at hc ⊢
      rw [if_pos hk, if_pos hk, hc]
      have e : cellOf env x = pure c := by unfold cellOf; rw [hc]
      rw [e]
      exact clos_loop env r ((x, c) :: acc) fun p hp => h p (.tail _ hp)
    · dsimp only
      rw [if_neg hk, if_neg hk]
      exact clos_loop env r acc fun p hp => h p (.tail _ hp)
theorem closure_eq {scope : Scope} {env : Env} (h : ∀ p ∈ scope.names, p.2 = .free → ∃ c, env.cells.lookup p.1 = some c) : closureFor scope env = pure (closL env scope.names []) := by
  rw [← clos_loop env scope.names [] h]
  unfold closureFor
  rw [bind_pure]

theorem closL_sound {env : Env} {x : Str} {c : Addr} : ∀ {ns : List (Str × NameKind)} {acc : List (Str × Addr)}, (closL env ns acc).lookup x = some c → acc.lookup x = some c ∨ env.cells.lookup x = some c
  | [], _, h => .inl h
  | (y, k) :: r, acc, h => by
    unfold closL at h
    split at h
    · induction e : env.cells.lookup y using Option.casesOn with
      | none => rw [e] at h; exact closL_sound h
      | some c' =>
        rw [e] at h
        rcases closL_sound h with h | h
        · rw [List.lookup_cons] at h
          by_cases q : (x == y) = true
          · rw [q] at h
            dsimp only at h
            cases h
            rw [beq_iff_eq] at q
            subst q
            exact .inr e
          · rw [Bool.not_eq_true] at q
            rw [q] at h
            exact .inl h
        · exact .inr h
    · exact closL_sound h
theorem closL_keeps {env : Env} {x : Str} {c : Addr} (e : env.cells.lookup x = some c) : ∀ {ns : List (Str × NameKind)} {acc : List (Str × Addr)}, acc.lookup x = some c → (closL env ns acc).lookup x = some c
  | [], _, h => h
  | (y, k) :: r, acc, h => by
    unfold closL
    split
    · induction e' : env.cells.lookup y using Option.casesOn with
      | none => exact closL_keeps e h
      | some c' =>
        refine closL_keeps e ?_
        rw [List.lookup_cons]
        by_cases q : (x == y) = true
        · rw [q]
          rw [beq_iff_eq] at q
          subst q
          rw [e] at e'
          exact e'.symm
        · rw [Bool.not_eq_true] at q
          rw [q]; exact h
    · exact closL_keeps e h
theorem closL_complete {env : Env} {x : Str} {c : Addr} (e : env.cells.lookup x = some c) : ∀ {ns : List (Str × NameKind)} {acc : List (Str × Addr)}, (x, NameKind.free) ∈ ns → (closL env ns acc).lookup x = some c
  | (y, k) :: r, acc, h => by
    unfold closL
    rcases List.mem_cons.mp h with h | h
    · cases h
      rw [if_pos (by rfl), e]
      exact closL_keeps e (by rw [List.lookup_cons]; simp)
    · split
      · induction e' : env.cells.lookup y using Option.casesOn with
        | none => exact closL_complete e h
        | some c' => exact closL_complete e h
      · exact closL_complete e h

section states
variable {G : Gd} {C : Act} {ρ ρ' : LEnv} {σ : AHeap} {φ : Ids} {mt im fr : Ledger} {m : Str → Option Value} {h h' : Heap} {n : Nat}

noncomputable def Act.comp (C : Act) (scope : Scope) (Lc : Addr) : Act := { C with env := compEnvC scope (closL C.env scope.names []) Lc C.env }
noncomputable def LEnv.comp (ρ : LEnv) (scope : Scope) : LEnv := { names := scope.names, locals := fun _ => Option.none, cells := ρ.cells }

theorem comp_ok (hC : C.Ok n) {scope : Scope} (hk : scope.kind = .function) (Lc : Addr) : (C.comp scope Lc).Ok n :=
  ⟨hC.frames, hC.hd, hC.depth, hC.units, hk, hC.fkind, hC.glo, hC.bui, hC.frm⟩

noncomputable def compNames (ρ : LEnv) (scope : Scope) : Prop := compOk scope = true ∧ scope.names.all (fun (x, k) => k != .free || ρ.names.lookup x == some .cell) = true
theorem compNames.kinds (h : compNames ρ scope) : ∀ p ∈ scope.names, (p.2 = .local ∨ p.2 = .free ∨ p.2 = .globalImplicit) ∧ scope.names.lookup p.1 = some p.2 ∧ (p.2 = .free → ρ.names.lookup p.1 = some .cell) := by
  obtain ⟨h1, h2⟩ := h
  unfold compOk at h1
  simp only [Bool.and_eq_true, List.all_eq_true] at h1 h2
  intro p hp
  have a := h1.2 p hp
  have b := h2 p hp
  simp only [Bool.and_eq_true, Bool.or_eq_true, beq_iff_eq, bne_iff_ne, ne_eq] at a b
  refine ⟨?_, a.2, fun e => ?_⟩
  · rcases a.1.2 with (h | h) | h
    · exact .inl h
    · exact .inr (.inl h)
    · exact .inr (.inr h)
  · rcases b with b | b
    · exact absurd e b
    · exact b
theorem compNames.kind (h : compNames ρ scope) : scope.kind = .function := by
  have h1 := h.1
  unfold compOk at h1
  simp only [Bool.and_eq_true, beq_iff_eq] at h1
  exact h1.1.1.1

theorem lookup_mem {α : Type} {x : Str} {k : α} : ∀ {l : List (Str × α)}, l.lookup x = some k → (x, k) ∈ l
  | (y, j) :: r, e => by
    rw [List.lookup_cons] at e
    by_cases q : (x == y) = true
    · rw [q] at e
      rw [beq_iff_eq] at q
      subst q
      cases e
      exact .head _
    · rw [Bool.not_eq_true] at q
      rw [q] at e
      exact .tail _ (lookup_mem e)

theorem relabel_lookup {env : Env} {f : Str × NameKind → NameKind} {x : Str} : ∀ {names : List (Str × NameKind)}, (names.map fun p => (p.1, f p)).lookup x = ((names.find? fun p => x == p.1).map f)
  | [] => rfl
  | (y, k) :: r => by
    rw [List.map_cons, List.lookup_cons, List.find?_cons]
    dsimp only
    induction q : x == y using Bool.casesOn with
    | true => rfl
    | false => exact relabel_lookup (env := env) (names := r)
theorem find_lookup {x : Str} {k : NameKind} : ∀ {names : List (Str × NameKind)}, names.lookup x = some k → names.find? (fun p => x == p.1) = some (x, k)
  | (y, j) :: r, e => by
    rw [List.lookup_cons] at e
    rw [List.find?_cons]
    by_cases q : (x == y) = true
    · rw [q] at e
      dsimp only at e ⊢
      rw [q]
      rw [beq_iff_eq] at q
      subst q
      cases e
      rfl
    · rw [Bool.not_eq_true] at q
      rw [q] at e
      dsimp only
      rw [q]
      exact find_lookup e

theorem comp_kind {scope : Scope} {cl : List (Str × Addr)} {Lc : Addr} {env : Env} {x : Str} {k : NameKind} (hk : env.scope.kind = .function) (e : scope.names.lookup x = some k) (hf : k = .free → env.kindOf x = some .cell) :
    (compEnvC scope cl Lc env).kindOf x = some (if k = .free then .cell else k) := by
  show (relabel scope env).names.lookup x = _
  have e1 : (relabel scope env).names = scope.names.map fun p => (p.1, if (p.2 == .free && env.scope.kind == .function && env.kindOf p.1 == some .cell) then NameKind.cell else p.2) := by
    unfold relabel
    dsimp only
    apply List.map_congr_left
    rintro ⟨y, j⟩ _
    dsimp only
    split <;> rfl
  rw [e1, relabel_lookup (env := env), find_lookup e]
  show some _ = _
  by_cases q : k = .free
  · subst q
    have hf' := hf rfl
    simp [hk, hf']
  · rw [if_neg q]
    have : (k == NameKind.free) = false := by simpa using q
    simp [this]

theorem comp_enter (st : SS G C ρ σ φ mt im fr m h) (hC : C.Ok n) {scope : Scope} (hs : compNames ρ scope) {Lc : Addr} {m0 : Str → Option Value} (hL : h.objs.size ≤ Lc) (hn : h'.Ns Lc m0) (hk : ∀ b o, h.get? b = some o → h'.get? b = some o) :
    ∃ oL, h.get? C.env.locals = some oL ∧ (∃ es ep, oL.data = .dict es ep) ∧ SS G (C.comp scope Lc) (ρ.comp scope) σ φ mt im ((C.env.locals, oL) :: fr) m0 h' := by
  obtain ⟨oL, es, ep, gL, dL, rest⟩ := st.F.ns
  refine ⟨oL, gL, ⟨es, ep, dL⟩, ?_⟩
  have lt : ∀ {a : Addr} {o : Obj}, h.get? a = some o → a ≠ Lc := fun g => Nat.ne_of_lt (Nat.lt_of_lt_of_le (Heap.lt_size g) hL)
  have hbL : G.hb.get? C.env.locals = none := by
    induction e : G.hb.get? C.env.locals using Option.casesOn with
    | none => rfl
    | some o => exact absurd (Heap.lt_size e) (Nat.not_lt.mpr st.F.above)
  refine ⟨⟨hn, fun b o e => hk b o (st.F.keep b o e), Nat.le_trans st.F.above (Nat.le_of_lt (Nat.lt_of_lt_of_le (Heap.lt_size gL) hL))⟩, fun p hp => ?_, st.nd, fun p hp q hq => ?_, fun p hp q hq => ?_, st.imk, fun q hq => ?_, st.hp, fun x k e => ?_, fun x av e => (by exact (no_ns e).elim), fun x hx => ?_, fun x y c e1 e2 => ?_, fun env he => ?_⟩
  · rcases List.mem_append.mp hp with hp | hp
    · have P := st.N p (List.mem_append.mpr (.inl hp)); exact ⟨hk _ _ P.1, lt P.1, P.2.2⟩
    · rcases List.mem_append.mp hp with hp | hp
      · have P := st.N p (List.mem_append.mpr (.inr (List.mem_append.mpr (.inl hp)))); exact ⟨hk _ _ P.1, lt P.1, P.2.2⟩
      · rcases List.mem_cons.mp hp with rfl | hp
        · exact ⟨hk _ _ gL, lt gL, hbL⟩
        · have P := st.N p (List.mem_append.mpr (.inr (List.mem_append.mpr (.inr hp)))); exact ⟨hk _ _ P.1, lt P.1, P.2.2⟩
  · rcases List.mem_append.mp hq with hq | hq
    · exact st.sep p hp q (List.mem_append.mpr (.inl hq))
    · rcases List.mem_cons.mp hq with rfl | hq
      · exact (st.N p (List.mem_append.mpr (.inl hp))).2.1
      · exact st.sep p hp q (List.mem_append.mpr (.inr hq))
  · rcases List.mem_cons.mp hq with rfl | hq
    · exact (st.N p (List.mem_append.mpr (.inr (List.mem_append.mpr (.inl hp))))).2.1
    · exact st.sepf p hp q hq
  · rcases List.mem_cons.mp hq with rfl | hq
    · exact .inl ⟨es, ep, dL⟩
    · exact st.frd q hq
  · have hm := lookup_mem e
    refine comp_kind hC.kind e fun q => ?_
    subst q
    have := st.kinds x _ ((hs.kinds _ hm).2.2 rfl)
    simpa using this
  · have e : scope.names.lookup x = some .free := by
      rcases hx with e | e
      · have := (hs.kinds _ (lookup_mem e)).1
        rcases this with h | h | h <;> cases h
      · exact e
    have hm := lookup_mem e
    obtain ⟨c, o, v₀, e1, e2, e3, e4⟩ := st.cell x (.inl ((hs.kinds _ hm).2.2 rfl))
    exact ⟨c, o, v₀, closL_complete e1 hm, .tail _ e2, e3, e4⟩
  · have s1 : C.env.cells.lookup x = some c := by
      rcases closL_sound e1 with h | h
      · exact (no_ns h).elim
      · exact h
    have s2 : C.env.cells.lookup y = some c := by
      rcases closL_sound e2 with h | h
      · exact (no_ns h).elim
      · exact h
    exact st.apart x y c s1 s2
  · obtain ⟨k1, b, k2, k3⟩ := st.frm env he
    refine ⟨k1, b, k2, .inr ?_⟩
    rcases k3 with rfl | ⟨o, es', n', h1, h2⟩
    · exact ⟨oL, es, ep, .head _, dL⟩
    · exact ⟨o, es', n', .tail _ h1, h2⟩
end states
end Mine
end
section
namespace Mine
open PySem PySem.W PySem.Calls PyProof.Rows

theorem noteFrame_congr {x : Value} {e1 e2 : Env} (h : e1.frame = e2.frame) : noteFrame x e1 = noteFrame x e2 := by
  unfold noteFrame PySem.frameOf
  rw [h]

section traces
variable {M : Model} {A : Around} {E : Value → Shared → Prop} {s : Shared}
theorem note_any {base : Heap} {env : Env} {outer : List Env} {L e : Addr} {cls a0 fl : Value} {Q : Unit → Shared → Prop}
    (hfr : A.frames = some (env :: outer)) (hl : s.heap.FunFrames base (env :: outer)) (hf : env.frame = some L) (ht : s.heap.TracedAtW base e cls a0 fl) (hkb : base.StaysIn s.heap) (hen : base.get? e = none)
    (h : ∀ h', base.StaysIn h' → h'.FunFrames base (env :: outer) → h'.TracedAtW base e cls a0 (rawInt L) → s.heap.UpToSlots h' → Q () { s with heap := h' }) : wpAny M A (noteFrame (.ref e) env) Q E s := by
  by_cases q : fl = rawInt L
  · subst q
    exact wpAny_noteFrame_againW hf ht (h s.heap hkb hl ht (Heap.UpToSlots.refl _))
  · obtain ⟨oe, vs, T, oT, ts, he, ⟨hcls, h0⟩, hd, h1, hnT, hTe, hT, hdT, h3⟩ := ht
    subst hcls
    unfold noteFrame
    simp only [hf]
    refine wpAny_bind (wpAny_field he hd h1 ?_)
    rw [if_pos (show (Value.ref T != Value.none) = true from by simp)]
    refine wpAny_bind (wpAny_field hT hdT h3 ?_)
    rw [if_neg (show ¬ ((fl == rawInt L) = true) from by simpa using q)]
    refine wpAny_bind (wpAny_setField hT hdT (Array.getElem?_eq_some_iff.mp h3).1 ?_)
    have other : ∀ b, b ≠ T → (s.heap.update T (Obj.mapFields (·.setIfInBounds 3 Value.none))).get? b = s.heap.get? b := fun b hb => Heap.get?_update_other _ _ (Ne.symm hb)
    have noRecord : ∀ b o, s.heap.get? b = some o → (∀ vs, o.data ≠ .fields vs) → b ≠ T := fun b o hb hnf q => by
      rw [q, hT] at hb; injection hb with hb; subst hb; exact hnf ts hdT
    refine wpAny_entryW hfr (hl.of_keeps fun b o hb hnf => ⟨o, (other b (noRecord b o hb hnf)).trans hb, rfl⟩) hf ((other e (Ne.symm hTe)).trans he)
      (fun b o hbo => (other b fun q => by rw [q, hnT] at hbo; exact (no_ns hbo).elim).trans (hkb b o hbo)) hen hd (Array.getElem?_eq_some_iff.mp h1).1 h0
      fun h' ⟨x1, x2, x3, x4⟩ => h h' x1 x2 x3 fun b o hb hnf => x4 b o ((other b (noRecord b o hb hnf)).trans hb) hnf

theorem flight_any {base : Heap} {l : List Env} {e : Addr} {cls a0 fl : Value} {fo : Option Addr} {Q : Unit → Shared → Prop}
    (hkb : base.StaysIn s.heap) (hl : s.heap.FunFrames base l) (ht : s.heap.TracedAtW base e cls a0 fl)
    (h : ∀ h', base.StaysIn h' → h'.FunFrames base l → h'.TracedAtW base e cls a0 (fo.elim .none fun f => rawInt f) → s.heap.UpToSlots h' → Q () { s with heap := h' }) :
    wpAny M A (setFlight (.ref e) fo) Q E s := by
  obtain ⟨oe, vs, T, oT, ts, he, hcls, hd, h1, hnT, hTe, hT, hdT, h3⟩ := ht
  have hsz3 : 3 < ts.size := (Array.getElem?_eq_some_iff.mp h3).1
  have other : ∀ b, b ≠ T → (s.heap.update T (Obj.mapFields (·.setIfInBounds 3 (fo.elim Value.none fun f => rawInt f)))).get? b = s.heap.get? b :=
    fun b hb => Heap.get?_update_other _ _ (Ne.symm hb)
  have noRecord : ∀ b o, s.heap.get? b = some o → (∀ vs, o.data ≠ .fields vs) → b ≠ T := fun b o hb hnf q => by
    rw [q, hT] at hb; injection hb with hb; subst hb; exact hnf ts hdT
  unfold setFlight
  refine wpAny_bind (wpAny_field he hd h1 ?_)
  rw [if_pos (show (Value.ref T != Value.none) = true from by simp)]
  refine wpAny_setField hT hdT hsz3 (h _ (fun b o hbo => (other b fun q => by rw [q, hnT] at hbo; exact (no_ns hbo).elim).trans (hkb b o hbo))
    (hl.of_keeps fun b o hb hnf => ⟨o, (other b (noRecord b o hb hnf)).trans hb, rfl⟩) ?_ (Heap.UpToSlots.trans (Heap.UpToSlots.refl _) fun b o hb hn => ⟨o.slots, (other b (noRecord b o hb hn)).trans hb⟩))
  exact ⟨oe, vs, T, _, _, (other e (Ne.symm hTe)).trans he, hcls, hd, h1, hnT, hTe, Heap.get?_update_self _ hT (Obj.isFreed_of_fields (Obj.data_mapFields hdT _)), Obj.data_mapFields hdT _, by simp [hsz3]⟩
end traces

section flies
variable {G : Gd} {C : Act} {ρ : LEnv} {σ : AHeap} {φ : Ids} {mt im fr : Ledger} {m : Str → Option Value} {h h' : Heap} {n : Nat} {E : Value → Shared → Prop} {s : Shared} {e : Addr}

noncomputable def refr (h' : Heap) (fr : Ledger) : Ledger := fr.map fun p => (p.1, (h'.get? p.1).getD p.2)

theorem Fly.next (f : Fly G C σ φ mt im fr m e h) {B : Heap} {a0 fl : Value} (b1 : G.hb.StaysIn B) (b2 : ∀ q ∈ mt ++ im, B.get? q.1 = some q.2) (b3 : ∀ q ∈ fr, IsL q.2 → B.get? q.1 = some q.2)
    (k1 : B.StaysIn h') (k2 : B.get? e = none) (k3 : h'.FunFrames B (C.fenv :: C.outer)) (k4 : h'.TracedAtW B e lowerFault a0 fl) (k5 : h.UpToSlots h') : ∃ fr', Ext φ im fr φ im fr' ∧ Fly G C σ φ mt im fr' m e h' := by
  have hx : ∀ p ∈ fr, ∃ sl, h'.get? p.1 = some { p.2 with slots := sl } ∧ (IsL p.2 → sl = p.2.slots) := fun p hp => by
    by_cases hc : IsL p.2
    · exact ⟨p.2.slots, k1 _ _ (b3 p hp hc), fun _ => rfl⟩
    · obtain ⟨sl, hs⟩ := k5 p.1 p.2 (f.frs p hp).1 fun vs hd => by
        rcases f.frd p hp with ⟨es, n, e'⟩ | ⟨v, e'⟩ | e'
        · rw [e'] at hd; cases hd
        · rw [e'] at hd; cases hd
        · exact hc e'
      exact ⟨sl, hs, fun q => absurd q hc⟩
  have mem : ∀ q ∈ refr h' fr, ∃ p ∈ fr, ∃ sl, q = (p.1, { p.2 with slots := sl }) ∧ h'.get? p.1 = some { p.2 with slots := sl } ∧ (IsL p.2 → sl = p.2.slots) := fun q hq => by
    obtain ⟨p, hp, rfl⟩ := List.mem_map.mp hq
    obtain ⟨sl, hs, hc⟩ := hx p hp
    exact ⟨p, hp, sl, by rw [hs]; rfl, hs, hc⟩
  refine ⟨refr h' fr, ⟨List.prefix_rfl, fun _ h => h, fun p hp => ?_⟩, ?_⟩
  · obtain ⟨sl, hs, hc⟩ := hx p hp
    exact ⟨sl, List.mem_map.mpr ⟨p, hp, by rw [hs]; rfl⟩, hc⟩
  · refine ⟨k5.ns f.ns, f.abv, ⟨B, a0, fl, b1, b2, fun q hq hc => ?_, k1, k2, k3, k4⟩, fun q hq => ?_, f.new, fun q hq => ?_, f.nd, fun p hp q hq => ?_, fun p hp q hq => ?_, f.imk, fun q hq => ?_, f.hp⟩
    · obtain ⟨p, hp, sl, rfl, hs, hl⟩ := mem q hq
      have hc : IsL p.2 := hc
      have := b3 p hp hc
      rw [hl hc]
      exact this
    · obtain ⟨p, hp, sl, rfl, hs, _⟩ := mem q hq
      exact ⟨hs, (f.frs p hp).2⟩
    · rcases List.mem_append.mp hq with hq | hq
      · exact f.own q (List.mem_append.mpr (.inl hq))
      · rcases List.mem_append.mp hq with hq | hq
        · exact f.own q (List.mem_append.mpr (.inr (List.mem_append.mpr (.inl hq))))
        · obtain ⟨p, hp, sl, rfl, _⟩ := mem q hq
          exact f.own p (List.mem_append.mpr (.inr (List.mem_append.mpr (.inr hp))))
    · rcases List.mem_append.mp hq with hq | hq
      · exact f.sep p hp q (List.mem_append.mpr (.inl hq))
      · obtain ⟨r, hr, sl, rfl, _⟩ := mem q hq
        exact f.sep p hp r (List.mem_append.mpr (.inr hr))
    · obtain ⟨r, hr, sl, rfl, _⟩ := mem q hq
      exact f.sepf p hp r hr
    · obtain ⟨r, hr, sl, rfl, _⟩ := mem q hq
      exact f.frd r hr

theorem fly_note {A : Around} (f : Fly G C σ φ mt im fr m e s.heap) (hA : A.frames = some (C.fenv :: C.outer)) {env : Env} (he : env.frame = C.fenv.frame) {Q : Unit → Shared → Prop}
    (hQ : ∀ h' fr', Ext φ im fr φ im fr' → Fly G C σ φ mt im fr' m e h' → Q () { s with heap := h' }) : wpAny (model G.prog G.w) A (noteFrame (.ref e) env) Q E s := by
  rw [noteFrame_congr he]
  obtain ⟨B, a0, fl, b1, b2, b3, b4, b5, b6, b7⟩ := f.out
  obtain ⟨hk, ⟨L, o, hf, hn, ho, hd⟩, hr⟩ := id b6
  refine note_any hA b6 hf b7 b4 b5 fun h' k1 k2 k3 k4 => ?_
  obtain ⟨fr', x, f'⟩ := f.next b1 b2 b3 k1 b5 k2 k3 k4
  exact hQ h' fr' x f'
theorem fly_flight {A : Around} (f : Fly G C σ φ mt im fr m e s.heap) {fo : Option Addr} {Q : Unit → Shared → Prop}
    (hQ : ∀ h' fr', Ext φ im fr φ im fr' → Fly G C σ φ mt im fr' m e h' → Q () { s with heap := h' }) : wpAny (model G.prog G.w) A (setFlight (.ref e) fo) Q E s := by
  obtain ⟨B, a0, fl, b1, b2, b3, b4, b5, b6, b7⟩ := f.out
  refine flight_any b4 b6 b7 fun h' k1 k2 k3 k4 => ?_
  obtain ⟨fr', x, f'⟩ := f.next b1 b2 b3 k1 b5 k2 k3 k4
  exact hQ h' fr' x f'
theorem fly_passOn {A : Around} {α : Type} (f : Fly G C σ φ mt im fr m e s.heap) {what : String} {env : Env} {Q : α → Shared → Prop}
    (hE : ∀ h' fr', Ext φ im fr φ im fr' → Fly G C σ φ mt im fr' m e h' → E (.ref e) { s with heap := h' }) : wpAny (model G.prog G.w) A (PySem.passOn what (.ref e) env : Sem α) Q E s := by
  unfold PySem.passOn
  obtain ⟨B, a0, fl, b1, b2, b3, b4, b5, b6, oe, vs, T, oT, ts, he, hcls, hd, h1, hr⟩ := f.out
  refine wpAny_bind (wpAny_field he hd h1 ?_)
  rw [if_neg (show ¬ ((Value.ref T == Value.none) = true) from Bool.false_ne_true)]
  exact wpAny_bind (fly_flight f fun h' fr' x f' => wpAny_throw (hE h' fr' x f'))
end flies
end Mine
end
section
namespace Mine
open PySem PySem.W PySem.Calls PyProof.Rows

structure ExtC (its : List Addr) (D : Addr) (φ : Ids) (im fr : Ledger) (φ' : Ids) (im' fr' : Ledger) : Prop where
  ids : φ <+: φ'
  im : Off its im im'
  fr : ∀ p ∈ fr, p.1 ≠ D → FrIn p fr'
theorem ExtC.refl (its : List Addr) (D : Addr) (φ : Ids) (im fr : Ledger) : ExtC its D φ im fr φ im fr := ⟨List.prefix_rfl, fun _ h _ => h, fun _ h _ => .self h⟩
theorem ExtC.trans {its : List Addr} {D : Addr} {φ im fr φ' im' fr' φ'' im'' fr''} (x : ExtC its D φ im fr φ' im' fr') (y : ExtC its D φ' im' fr' φ'' im'' fr'') : ExtC its D φ im fr φ'' im'' fr'' :=
  ⟨x.ids.trans y.ids, x.im.trans y.im, fun p h hn => (x.fr p h hn).trans fun q hq e => y.fr q hq (e ▸ hn)⟩
theorem Ext.toC {its : List Addr} {D : Addr} {φ im fr φ' im' fr'} (x : Ext φ im fr φ' im' fr') : ExtC its D φ im fr φ' im' fr' := ⟨x.ids, fun p h _ => x.im p h, fun p h _ => x.fr p h⟩

theorem FrIn.list {p : Addr × Obj} {fr' : Ledger} (h : FrIn p fr') (hc : IsL p.2) : p ∈ fr' := by
  obtain ⟨sl, h, e⟩ := h
  rw [e hc] at h
  exact h

section states
variable {G : Gd} {C : Act} {ρ ρ' : LEnv} {σ : AHeap} {φ : Ids} {mt im fr : Ledger} {m : Str → Option Value} {h h' : Heap} {n : Nat}

theorem SS.setFr (st : SS G C ρ σ φ mt im fr m h) {D : Addr} {o o' : Obj} (hm : (D, o) ∈ fr) (hc' : IsL o') (hd : NoFr o) (hs : Heap.SameBut D h h') (hg : h'.get? D = some o') : SS G C ρ σ φ mt im (putAt D o' fr) m h' := by
  have D0 := st.N (D, o) (List.mem_append.mpr (.inr (List.mem_append.mpr (.inr hm))))
  refine { st with F := st.F.change hs D0.2.1 D0.2.2, N := fun p hp => ?_, sep := ?_, sepf := ?_, frd := ?_, cell := ?_, frm := ?_ }
  · rcases List.mem_append.mp hp with hp | hp
    · have Q := st.N p (List.mem_append.mpr (.inl hp))
      exact ⟨(hs.2 _ (st.sep p hp (D, o) (List.mem_append.mpr (.inr hm)))).trans Q.1, Q.2⟩
    · rcases List.mem_append.mp hp with hp | hp
      · have Q := st.N p (List.mem_append.mpr (.inr (List.mem_append.mpr (.inl hp))))
        exact ⟨(hs.2 _ (st.sepf p hp (D, o) hm)).trans Q.1, Q.2⟩
      · rcases mem_putAt hp with ⟨hp, hn⟩ | rfl
        · have Q := st.N p (List.mem_append.mpr (.inr (List.mem_append.mpr (.inr hp))))
          exact ⟨(hs.2 _ hn).trans Q.1, Q.2⟩
        · exact ⟨hg, D0.2⟩
  · intro p hp q hq
    rcases List.mem_append.mp hq with hq | hq
    · exact st.sep p hp q (List.mem_append.mpr (.inl hq))
    · rcases mem_putAt hq with ⟨hq, _⟩ | rfl
      · exact st.sep p hp q (List.mem_append.mpr (.inr hq))
      · exact st.sep p hp (D, o) (List.mem_append.mpr (.inr hm))
  · intro p hp q hq
    rcases mem_putAt hq with ⟨hq, _⟩ | rfl
    · exact st.sepf p hp q hq
    · exact st.sepf p hp (D, o) hm
  · intro q hq
    rcases mem_putAt hq with ⟨hq, _⟩ | rfl
    · exact st.frd q hq
    · exact .inr (.inr hc')
  · intro x k
    obtain ⟨c, ob, v₀, e1, e2, e3, e4⟩ := st.cell x k
    refine ⟨c, ob, v₀, e1, putAt_other e2 fun ec => ?_, e3, e4⟩
    have ec : c = D := ec
    subst ec
    have g := st.frIn e2
    have g' := st.frIn hm
    dsimp only at g g'
    rw [g'] at g
    cases g
    exact hd.2 _ e3
  · intro env he
    obtain ⟨k1, b, k2, k3⟩ := st.frm env he
    refine ⟨k1, b, k2, ?_⟩
    rcases k3 with rfl | ⟨ob, es, nn, f1, f2⟩
    · exact .inl rfl
    · refine .inr ⟨ob, es, nn, putAt_other f1 fun ec => ?_, f2⟩
      have ec : b = D := ec
      subst ec
      have g := st.frIn f1
      have g' := st.frIn hm
      dsimp only at g g'
      rw [g'] at g
      cases g
      exact hd.1 _ _ f2
end states

section tests
variable {G : Gd} {C : Act} {ρ : LEnv} {m : Str → Option Value} {P : Pre} {n : Nat} {ev : Ev}
theorem tests_false (env : Env) : ∀ ifs : List Expr, (forIn ifs false fun c r => if r = true then do let ok ← isTrue c env (eval c env); pure (ForInStep.yield ok) else pure (ForInStep.yield r) : Sem Bool) = pure false
  | [] => rfl
  | c :: r => by
    rw [List.forIn_cons]
    exact tests_false env r
theorem sm_tests (h : EvSim G n ev) (hC : C.Ok n) : ∀ (ifs : List Expr) (P : Pre), Stable P → Sm G C ρ m P (fun _ _ a b => b = a)
    (forIn ifs true fun c r => if r = true then do let ok ← isTrue c C.env (eval c C.env); pure (ForInStep.yield ok) else pure (ForInStep.yield r)) (testsT ev.t ρ ifs)
  | [], P, _ => Sm.pure fun _ _ _ => rfl
  | c :: r, P, hP => by
    have e : (forIn (c :: r) true fun c r => if r = true then do let ok ← isTrue c C.env (eval c C.env); pure (ForInStep.yield ok) else pure (ForInStep.yield r) : Sem Bool) =
        (isTrue c C.env (eval c C.env) >>= fun ok => forIn r ok fun c r => if r = true then do let ok ← isTrue c C.env (eval c C.env); pure (ForInStep.yield ok) else pure (ForInStep.yield r)) := by
      rw [List.forIn_cons]
      rw [if_pos rfl]
      simp only [bind_assoc, pure_bind]
    rw [e]
    refine Sm.bind hP (h.test hC c) fun b t => ?_
    refine Sm.exact (X := t = b) (fun φ im h => h.2) fun e => ?_
    subst e
    induction t using Bool.casesOn with
    | true => exact sm_tests h hC r _ (hP.and stableEq)
    | false =>
      rw [tests_false]
      exact Sm.pure fun _ _ _ => rfl
end tests
end Mine
end
section
namespace Mine
open PySem PySem.W PySem.Calls PyProof.Rows

theorem Binds.names {ρ ρ' : LEnv} {ts : List Expr} {avs : List AV} (e : Binds ρ ts avs ρ') : ρ'.names = ρ.names := by
  induction e with
  | nil => rfl
  | cons e1 _ ih => rw [ih, set_names e1]
theorem bindTarget_names {ρ ρ' : LEnv} {t : Expr} {av : AV} (e : bindTarget ρ t av = some ρ') : ρ'.names = ρ.names := by
  rcases bindTarget_of e with ⟨x, p, rfl, e⟩ | ⟨ts, k, p, avs, rfl, rfl, _, e⟩
  · exact set_names e
  · exact e.names

theorem comp_locTarget {ns : List (Str × NameKind)} (h : ∀ x k, ns.lookup x = some k → k ≠ .cell) {ρ ρ' : LEnv} (hn : ρ.names = ns) {t : Expr} {av : AV} (e : bindTarget ρ t av = some ρ') : locTarget ρ.names t = true := by
  have one : ∀ {ρ ρ' : LEnv} {x : Str} {av : AV}, ρ.names = ns → ρ.set x av = some ρ' → (ρ.names.lookup x == some NameKind.local) = true := fun {ρ ρ' x av} hn e => by
    rcases set_of e with ⟨hk, _⟩ | ⟨hk, _⟩
    · rw [hk]; rfl
    · rw [hn] at hk; exact absurd rfl (h x _ hk)
  have e' := bindTarget_of e
  clear e
  rcases e' with ⟨x, p, rfl, e⟩ | ⟨ts, k, p, avs, rfl, rfl, hd, e⟩
  · exact one hn e
  · show (namesOf ts).all _ = true
    clear h hd
    induction e with
    | nil => rfl
    | cons e1 _ ih => exact (Bool.and_eq_true _ _).mpr ⟨one hn e1, by have := ih (by rw [set_names e1]; exact hn); rwa [set_names e1] at this⟩

theorem onRaise_compTurn {M : Model} {A : Around} {s : Shared} {env : Env} {t : Sem Fin} {Q : Fin → Shared → Prop} {E : Value → Shared → Prop} (h : wpAny M A t Q (notedBy M A env E) s) : wpAny M A (t.onRaise fun x => do noteFrame x env; theTreesLotGoes x) Q E s := wpAny_noted h

theorem ItRep.notRep {G : Gd} {C : Act} {ρ : LEnv} {σ : AHeap} {φ φ' : Ids} {mt im fr : Ledger} {m : Str → Option Value} {h : Heap} {src : Src} {k : Nat} {it : Value} {its : List Addr} (ir : ItRep G src k it its φ' im) (st : SS G C ρ σ φ mt im fr m h)
    {p : Addr × Obj} (hp : p ∈ im) (hi : p.1 ∈ its) (hc : p.2.cls = .type "tuple" ∨ p.2.cls = .type "list") : False := by
  have key : ∀ {a : Addr} {o : Obj}, (a, o) ∈ im → p.1 = a → (o.cls ≠ .type "tuple" ∧ o.cls ≠ .type "list") → False := fun {a o} ho e hn => by
    subst e
    have := st.one (show (p.1, p.2) ∈ im from hp) ho
    rw [this] at hc
    rcases hc with h | h
    · exact hn.1 h
    · exact hn.2 h
  induction src using Src.casesOn with
  | seq o =>
    obtain ⟨I, v, ob, rfl, rfl, r, hm, si⟩ := ir
    exact key hm (List.mem_singleton.mp hi) si.plain.1
  | range nn =>
    obtain ⟨I, rfl, rfl, _, _, hm⟩ := ir
    exact key hm (List.mem_singleton.mp hi) ⟨fun e => (by injection e with e; revert e; decide), fun e => (by injection e with e; revert e; decide)⟩
  | enum o =>
    obtain ⟨e, I, v, ob, old, rfl, rfl, hne, r, hm, si, hme⟩ := ir
    simp only [List.mem_cons, List.not_mem_nil, or_false] at hi
    rcases hi with hi | hi
    · exact key hme hi ⟨fun e => (by injection e with e; revert e; decide), fun e => (by injection e with e; revert e; decide)⟩
    · exact key hm hi si.plain.1

section loop
variable {G : Gd} {C : Act} {n : Nat} {ev : Ev}

noncomputable def compRest (G : Gd) (C : Act) (R : Result → Shared → Prop) (elt target iter : Expr) (ifs : List Expr) (scope : Scope) (pos : Pos) (it : Value) (D : Addr) (s₁ : Shared) : Prop :=
  wpAny (model G.prog G.w) C.A (forIn ifs true fun c r => if r = true then do let ok ← isTrue c C.env (eval c C.env); pure (ForInStep.yield ok) else pure (ForInStep.yield r))
        (fun ok s₂ => if ok = true then wpAny (model G.prog G.w) C.A (eval elt C.env) (fun x s₃ => wpAny (model G.prog G.w) C.A (call (.builtin "list.append") [.ref D, x]) (fun _ s₄ => codeAny (model G.prog G.w) C.A (.compLoop (.ListComp elt [⟨target, iter, ifs, 0⟩] scope pos) 0 it (.ref D) C.env) R s₄)
            (notedBy (model G.prog G.w) C.A C.env (fun e s' => R (.error e) s')) s₃) (notedBy (model G.prog G.w) C.A C.env (fun e s' => R (.error e) s')) s₂
          else codeAny (model G.prog G.w) C.A (.compLoop (.ListComp elt [⟨target, iter, ifs, 0⟩] scope pos) 0 it (.ref D) C.env) R s₂) (notedBy (model G.prog G.w) C.A C.env (fun e s' => R (.error e) s')) s₁

noncomputable def CompK (G : Gd) (C : Act) (its : List Addr) (D : Addr) (φ : Ids) (im fr : Ledger) (s : Shared) (vs : List Value) (R : Result → Shared → Prop) : Res (List AV) → Prop
  | .ok l σ' => ∀ ρ' φ' mt' im' fr' m' h' tk us nn', ExtC its D φ im fr φ' im' fr' → SS G C ρ' σ' φ' mt' im' fr' m' h' → (D, W.listOf (vs ++ us).toArray nn') ∈ fr' → RepL G φ' im' l us → R (.ok .next) { s with heap := h', toks := tk }
  | .exn σ' => ∀ φ' mt' im' fr' m' h' tk e, ExtC its D φ im fr φ' im' fr' → Fly G C σ' φ' mt' im' fr' m' e h' → R (.error (.ref e)) { s with heap := h', toks := tk }
  | .fail => False
section compk
variable {its : List Addr} {D : Addr} {φ φ₁ : Ids} {im fr im₁ fr₁ : Ledger} {s : Shared} {vs : List Value} {R : Result → Shared → Prop}
theorem CompK.ext {r : Res (List AV)} (h : CompK G C its D φ im fr s vs R r) (X : ExtC its D φ im fr φ₁ im₁ fr₁) (h₁ : Heap) (t₁ : Tok) : CompK G C its D φ₁ im₁ fr₁ { s with heap := h₁, toks := t₁ } vs R r := by
  induction r using Res.casesOn with
  | ok l σ => exact fun ρ' φ' mt' im' fr' m' h' tk us nn' x => h ρ' φ' mt' im' fr' m' h' tk us nn' (X.trans x)
  | exn σ => exact fun φ' mt' im' fr' m' h' tk e x => h φ' mt' im' fr' m' h' tk e (X.trans x)
  | fail => exact h
theorem CompK.snoc {r : Res (List AV)} {av : AV} {u : Value} (h : CompK G C its D φ im fr s vs R (r.bind fun l => (pure (av :: l) : M (List AV)))) (ru : ∀ φ' im' fr', ExtC its D φ im fr φ' im' fr' → Rep G φ' im' av u) : CompK G C its D φ im fr s (vs ++ [u]) R r := by
  induction r using Res.casesOn with
  | ok l σ => exact fun ρ' φ' mt' im' fr' m' h' tk us nn' x s' ha rl => h ρ' φ' mt' im' fr' m' h' tk (u :: us) nn' x s' (by rw [List.append_assoc] at ha; exact ha) (RepL.cons (ru φ' im' fr' x) rl)
  | exn σ => exact h
  | fail => exact h
theorem CompK.noted {σ' : AHeap} (h : CompK G C its D φ im fr s vs R (.exn σ')) (hfr : C.A.frames = some (C.fenv :: C.outer)) (hfen : C.env.frame = C.fenv.frame) {φ' : Ids} {mt' im' fr' : Ledger} {m' : Str → Option Value} {h' : Heap} {tk : Tok} {e : Addr} (x : ExtC its D φ im fr φ' im' fr') (f : Fly G C σ' φ' mt' im' fr' m' e h') :
    notedBy (model G.prog G.w) C.A C.env (fun e s' => R (.error e) s') (.ref e) { s with heap := h', toks := tk } :=
  fly_note (s := { s with heap := h', toks := tk }) f hfr hfen fun h'' fr'' x' f' => h φ' mt' im' fr'' m' h'' tk e (x.trans x'.toC) f'
end compk
theorem lift_out {α β : Type} {o : Option α} {k : α → M β} {σ : AHeap} {K : Res β → Prop} (hf : K .fail → False) (hs : K ((liftO o >>= k) σ)) : ∃ a, o = some a ∧ K (k a σ) := by
  induction o using Option.casesOn with
  | none => exact (hf hs).elim
  | some a => exact ⟨a, rfl, hs⟩

theorem comp_loop (h : EvSim G n ev) (hC : C.Ok n) {ns : List (Str × NameKind)} (hns : ∀ x k, ns.lookup x = some k → k ≠ .cell) (hfen : C.env.frame = C.fenv.frame) {elt target iter : Expr} {ifs : List Expr} {scope : Scope} {pos : Pos} {src : Src} (hsrc : srcFor target src = true) {it : Value} {its : List Addr} {D : Addr} :
    ∀ (fuel k : Nat) (ρ : LEnv) (σ : AHeap) (φ : Ids) (mt im fr : Ledger) (m : Str → Option Value) (s : Shared) (vs : List Value) (nn : Nat) (R : Result → Shared → Prop),
    ρ.names = ns → SS G C ρ σ φ mt im fr m s.heap → ItRep G src k it its φ im → (D, W.listOf vs.toArray nn) ∈ fr → vs.length + fuel ≤ 100000 → CompK G C its D φ im fr s vs R (compLoop ev target elt ifs src fuel k ρ σ) →
    codeAny (model G.prog G.w) C.A (.compLoop (.ListComp elt [⟨target, iter, ifs, 0⟩] scope pos) 0 it (.ref D) C.env) R s := by
  intro fuel
  induction fuel with
  | zero => intro k ρ σ φ mt im fr m s vs nn R _ _ _ _ _ hf; exact hf.elim
  | succ fuel ih =>
    intro k ρ σ φ mt im fr m s vs nn R hρ st ir hacc hlen hs
    refine codeAny_of_tree ?_
    show wpAny _ C.A ((compTurn (.ListComp elt [⟨target, iter, ifs, 0⟩] scope pos) 0 it (.ref D) C.env).onRaise (fun x => do noteFrame x C.env; theTreesLotGoes x)) _ _ s
    refine wpAny_noted ?_
    rw [compTurn_list]
    have hfr : C.A.frames = some (C.fenv :: C.outer) := hC.frames
    refine wpAny_bind (wpAny_standAt (wpAny_bind ?_))
    have T := @turn_ok G C ρ σ φ mt im fr m n (notedBy (model G.prog G.w) C.A C.env (fun e s' => R (.error e) s')) s target src hC st k it its ir hsrc (fun r => CompK G C its D φ im fr s vs R (r.bind fun r => match r with
      | none => pure []
      | some v => (liftO (bindTarget ρ target v) >>= fun ρ' => testsT ev.t ρ' ifs >>= fun ok => if ok = true then (ev.e elt ρ' >>= fun x => compLoop ev target elt ifs src fuel (k + 1) ρ' >>= fun r => pure (x :: r)) else compLoop ev target elt ifs src fuel (k + 1) ρ'))) (fun q => q) hs
      (fun s' => R (.ok .next) s') (fun _ s₁ => compRest G C R elt target iter ifs scope pos it D s₁) ?hn ?hs
    case hn =>
      exact fun q h' im' tk off st' => q ρ φ mt im' fr m h' tk [] nn ⟨List.prefix_rfl, off, fun _ h _ => .self h⟩ st' (by rw [List.append_nil]; exact hacc) RepL.nil
    case hs =>
      clear hs
      intro av q
      obtain ⟨ρ', eb, q1⟩ := lift_out (K := CompK G C its D φ im fr s vs R) (fun x => x) q
      clear q
      refine ⟨ρ', eb, fun h' m' im' fr' tk off st' ir' _ hl => ?_⟩
      have hfr' := hl (comp_locTarget hns hρ eb)
      subst hfr'
      have hρ' : ρ'.names = ns := (bindTarget_names eb).trans hρ
      clear hl eb ir st hρ
      unfold compRest
      refine sm_tests (ρ := ρ') (m := m') h hC ifs (fun _ _ => True) stableT σ φ mt im' fr' { s with heap := h', toks := tk } _ _ trivial st' ?_
      have X0 : ExtC its D φ im fr' φ im' fr' := ⟨List.prefix_rfl, off, fun _ h _ => .self h⟩
      change CompK G C its D φ im fr' s vs R ((testsT ev.t ρ' ifs σ).bind _) at q1
      induction et : testsT ev.t ρ' ifs σ using Res.casesOn with
      | fail => rw [et] at q1; exact q1.elim
      | exn σ₁ =>
        rw [et] at q1
        exact fun φ₁ mt₁ im₁ fr₁ h₁ tk₁ e x₁ f₁ => CompK.noted q1 hfr hfen (X0.trans x₁.toC) f₁
      | ok ok σ₁ =>
        rw [et] at q1
        intro φ₁ mt₁ im₁ fr₁ h₁ tk₁ b x₁ st₁ eb'
        subst eb'
        have X1 := X0.trans x₁.toC
        have hacc₁ : (D, W.listOf vs.toArray nn) ∈ fr₁ := (x₁.fr _ hacc).list ⟨rfl, _, _, rfl⟩
        have ir₁ := ir'.mono x₁.ids x₁.im
        clear X0 off st' ir' x₁ et
        induction b using Bool.casesOn with
        | false =>
          exact ih (k + 1) ρ' σ₁ φ₁ mt₁ im₁ fr₁ m' { s with heap := h₁, toks := tk₁ } vs nn R hρ' st₁ ir₁ hacc₁ (by omega) (CompK.ext q1 X1 h₁ tk₁)
        | true =>
          refine h.at_ (ρ := ρ') (m := m') (P := fun _ _ => True) hC elt σ₁ φ₁ mt₁ im₁ fr₁ { s with heap := h₁, toks := tk₁ } _ _ trivial st₁ ?_
          change CompK G C its D φ im fr' s vs R ((ev.e elt ρ' σ₁).bind _) at q1
          induction ee : ev.e elt ρ' σ₁ using Res.casesOn with
          | fail => rw [ee] at q1; exact q1.elim
          | exn σ₂ =>
            rw [ee] at q1
            exact fun φ₂ mt₂ im₂ fr₂ h₂ tk₂ e x₂ f₂ => CompK.noted q1 hfr hfen (X1.trans x₂.toC) f₂
          | ok av₂ σ₂ =>
            rw [ee] at q1
            intro φ₂ mt₂ im₂ fr₂ h₂ tk₂ u x₂ st₂ ru
            have hacc₂ : (D, W.listOf vs.toArray nn) ∈ fr₂ := (x₂.fr _ hacc₁).list ⟨rfl, _, _, rfl⟩
            have X2 := X1.trans x₂.toC
            have ir₂ := ir₁.mono x₂.ids x₂.im
            clear X1 ir₁ x₂ st₁ ee hacc hacc₁
            refine append_at (st₂.frIn hacc₂) (fun h₃ hs₃ hg₃ => ?_) (by rw [List.size_toArray, sizeLine_eq]; omega)
            have hg₃' : h₃.get? D = some (W.listOf (vs ++ [u]).toArray (nn + 1)) := by rw [hg₃]; simp
            have st₃ := st₂.setFr (o' := W.listOf (vs ++ [u]).toArray (nn + 1)) hacc₂ ⟨rfl, _, _, rfl⟩ ⟨fun es n e => (by cases e), fun v e => (by cases e)⟩ hs₃ hg₃'
            have X3 : ExtC its D φ im fr' φ₂ im₂ (putAt D (W.listOf (vs ++ [u]).toArray (nn + 1)) fr₂) := X2.trans ⟨List.prefix_rfl, fun _ h _ => h, fun p hp hn => .self (putAt_other hp hn)⟩
            refine ih (k + 1) ρ' σ₂ φ₂ mt₂ im₂ _ m' { s with heap := h₃, toks := tk₂ } (vs ++ [u]) (nn + 1) R hρ' st₃ ir₂ (putAt_self hacc₂) (by rw [List.length_append, List.length_singleton]; omega) ?_
            exact CompK.snoc (CompK.ext q1 X3 h₃ tk₂) fun φ' im' fr' x => Rep.mono G x.ids (fun p hp hc => x.im p hp fun hi => ir₂.notRep st₂ hp hi hc) ru
    refine wpAny_mono T (fun r s₁ hr => ?_) fun _ _ y => y
    induction r using Option.casesOn with
    | none => exact wpAny_pure hr
    | some v =>
      dsimp only at hr
      refine wpAny_bind (wpAny_mono hr (fun _ s₂ h₂ => wpAny_bind (wpAny_mono h₂ (fun _ s₃ h₃ => ?_) fun _ _ y => y)) fun _ _ y => y)
      unfold compRest at h₃
      refine wpAny_bind (wpAny_mono h₃ (fun ok s₄ h₄ => ?_) fun _ _ y => y)
      induction ok using Bool.casesOn with
      | false => exact wpAny_pure ⟨rfl, h₄⟩
      | true => exact wpAny_bind (wpAny_bind (wpAny_mono h₄ (fun x s₅ h₅ => wpAny_bind (wpAny_mono h₅ (fun _ s₆ h₆ => wpAny_pure (wpAny_pure ⟨rfl, h₆⟩)) fun _ _ y => y)) fun _ _ y => y))
end loop
end Mine
end
section
namespace Mine
open PySem PySem.W PySem.Calls PyProof.Rows

noncomputable def notSet : Expr → Bool
  | .Set _ _ _ => false
  | _ => true
theorem folded_ok {e : Expr} (h : notSet e = true) (env : Env) (x : Value) : foldedSetIterable e env x = pure x := by
  induction e using PySem.Expr.casesOn with
  | Set => cases h
  | _ => rfl

theorem notSet_ok {e : Expr} (h : okE e = true) : notSet e = true := by cases e <;> first | rfl | exact (no_ft h).elim
section states
variable {G : Gd} {C : Act} {ρ : LEnv} {σ : AHeap} {φ : Ids} {mt im fr : Ledger} {m : Str → Option Value} {n : Nat} {E : Value → Shared → Prop} {s : Shared}

theorem iter_seq (st : SS G C ρ σ φ mt im fr m s.heap) {o : AV} {v : Value} (r : Rep G φ im o v) {l : List AV} (sv : SeqV G φ im s.heap v l (isTupAV o)) {Q : Value → Shared → Prop}
    (hQ : ∀ h' it I ob, SS G C ρ σ φ mt ((I, ob) :: im) fr m h' → it = .ref I → s.heap.objs.size ≤ I → ItRep G (.seq o) 0 it [I] φ ((I, ob) :: im) → Q it { s with heap := h' }) : wpAny (model G.prog G.w) C.A (pyIter v) Q E s := by
  obtain ⟨a, vs, rfl, rl, hlen, hx⟩ := sv.out
  have fin : ∀ ob : Obj, ob.isFreed = false → SeqIter o (.ref a) 0 ob → Q (.ref s.heap.objs.size) { s with heap := s.heap.push ob } := fun ob hfr si => by
    refine hQ _ _ s.heap.objs.size ob (st.addIm (st.F.push _) (News.push st.F st.N _ (hfree := hfr)) (Nat.le_refl _) si.plain.2) rfl (Nat.le_refl _) ?_
    exact ⟨_, _, ob, rfl, rfl, r.ext (Ext.addIm (fr := fr) _), .head _, si⟩
  rcases hx with ⟨e, hx⟩ | ⟨e, hx⟩
  · exact wpAny_pyIter_list hx (fin _ rfl ⟨a, rfl, by rw [e]; rfl, rfl⟩)
  · exact wpAny_pyIter_tuple hx (fin _ rfl ⟨a, rfl, by rw [e]; rfl, rfl⟩)

theorem srcE_out {α : Type} {x : M AV} {σ : AHeap} {k : AV → M α} : (x >>= k) σ = (x σ).bind k := rfl

theorem isType_top {n : String} {o : Option AV} (h : isType n o = true) : o = some (.top (.type n)) := by
  unfold isType at h
  split at h
  · rename_i m
    rw [beq_iff_eq] at h
    rw [h]
  · cases h

noncomputable def SrcK (G : Gd) (C : Act) (ρ : LEnv) (m : Str → Option Value) (im₀ : Ledger) (φ : Ids) (im fr : Ledger) (s : Shared) (Q E : Value → Shared → Prop) : Res Src → Prop
  | .ok src σ' => ∀ φ' mt' im' fr' h' tk it its, Ext φ im fr φ' im' fr' → (∀ p ∈ im₀, p.1 ∉ its) → SS G C ρ σ' φ' mt' im' fr' m h' → ItRep G src 0 it its φ' im' → Q it { s with heap := h', toks := tk }
  | .exn σ' => ∀ φ' mt' im' fr' h' tk e', Ext φ im fr φ' im' fr' → Fly G C σ' φ' mt' im' fr' m e' h' → E (.ref e') { s with heap := h', toks := tk }
  | .fail => False
theorem SrcK.ext {im₀ : Ledger} {Q : Value → Shared → Prop} {r : Res Src} {φ₁ : Ids} {im₁ fr₁ : Ledger} (h : SrcK G C ρ m im₀ φ im fr s Q E r) (X : Ext φ im fr φ₁ im₁ fr₁) (h₁ : Heap) (t₁ : Tok) : SrcK G C ρ m im₀ φ₁ im₁ fr₁ { s with heap := h₁, toks := t₁ } Q E r := by
  induction r using Res.casesOn with
  | ok l σ => exact fun φ' mt' im' fr' h' tk it its x => h φ' mt' im' fr' h' tk it its (X.trans x)
  | exn σ => exact fun φ' mt' im' fr' h' tk e x => h φ' mt' im' fr' h' tk e (X.trans x)
  | fail => exact h
theorem SS.fresh (st : SS G C ρ σ φ mt im fr m s.heap) {im₀ : Ledger} (hi : ∀ p ∈ im₀, p ∈ im) {its : List Addr} (h : ∀ a ∈ its, s.heap.objs.size ≤ a) : ∀ p ∈ im₀, p.1 ∉ its := fun p hp hpi =>
  absurd (st.lt (List.mem_append.mpr (.inr (List.mem_append.mpr (.inl (hi p hp)))))) (Nat.not_lt.mpr (h _ hpi))
theorem src_plain {ev : Ev} (h : EvSim G n ev) (hC : C.Ok n) (st : SS G C ρ σ φ mt im fr m s.heap) {e : Expr} {Q : Value → Shared → Prop} {im₀ : Ledger} (hi : ∀ p ∈ im₀, p ∈ im) (hs : SrcK G C ρ m im₀ φ im fr s Q E ((do let v ← ev.e e ρ; let _ ← toSeq v; pure (.seq v) : M Src) σ)) :
    wpAny (model G.prog G.w) C.A (eval e C.env) (fun x s₁ => wpAny (model G.prog G.w) C.A (pyIter x) Q E s₁) E s := by
  refine h.at_ (ρ := ρ) (m := m) (P := fun _ _ => True) hC e σ φ mt im fr s _ E trivial st ?_
  change SrcK G C ρ m im₀ φ im fr s Q E ((ev.e e ρ σ).bind _) at hs
  induction ee : ev.e e ρ σ using Res.casesOn with
  | fail => rw [ee] at hs; exact hs.elim
  | exn σ₁ => rw [ee] at hs; exact fun φ₁ mt₁ im₁ fr₁ h₁ tk₁ x y f => hs φ₁ mt₁ im₁ fr₁ h₁ tk₁ x y f
  | ok o σ₁ =>
    rw [ee] at hs
    intro φ₁ mt₁ im₁ fr₁ h₁ tk₁ v x₁ st₁ r
    obtain ⟨l, sv, hK⟩ := seq_of (k := fun _ => (pure (Src.seq o) : M Src)) st₁ r (K := SrcK G C ρ m im₀ φ im fr s Q E) (fun q => q) hs
    clear hs ee st
    refine iter_seq (s := { s with heap := h₁, toks := tk₁ }) st₁ r sv fun h₂ it I ob st₂ hit hI ir => ?_
    exact hK φ₁ mt₁ _ fr₁ h₂ tk₁ it [I] (x₁.trans (Ext.addIm _)) (SS.fresh (s := { s with heap := h₁, toks := tk₁ }) st₁ (fun p hp => x₁.im p (hi p hp)) fun a ha => by rw [List.mem_singleton.mp ha]; exact hI) st₂ ir
theorem src_typed {ev : Ev} (ok : G.Ok) (h : EvSim G n ev) (hC : C.Ok n) (st : SS G C ρ σ φ mt im fr m s.heap) {x : Str} {px pos : Pos} {a : Expr} {T : String} (hT : ρ.get G.tb x = some (.top (.type T))) (ha : okE a = true) (hd : (x == ("__debug__" : Str)) = false) {Q Q' : Value → Shared → Prop} {im₀ : Ledger} {k : AV → M Src}
    (hs : SrcK G C ρ m im₀ φ im fr s Q E ((ev.e a ρ >>= k) σ))
    (hcall : ∀ o σ₁ φ₁ mt₁ im₁ fr₁ h₁ tk₁ v, Ext φ im fr φ₁ im₁ fr₁ → SS G C ρ σ₁ φ₁ mt₁ im₁ fr₁ m h₁ → Rep G φ₁ im₁ o v → SrcK G C ρ m im₀ φ₁ im₁ fr₁ { s with heap := h₁, toks := tk₁ } Q E (k o σ₁) → wpAny (model G.prog G.w) C.A (call (.type T) [v]) Q' E { s with heap := h₁, toks := tk₁ }) :
    wpAny (model G.prog G.w) C.A (eval (.Call (.Name x px) [a] [] pos) C.env) Q' E s := by
  rw [arm_eval_Call_Name']
  refine wpAny_bind (sm_name (ρ := ρ) (m := m) (P := fun _ _ => True) ok hC x px hd σ φ mt im fr s _ E trivial st ?_)
  rw [hT]
  intro φ' mt' im' fr' h' tk' b x' st' r'
  unfold Rep at r'
  subst r'
  refine callWith_of (P := fun _ => True) (by rw [args_plain (by simp [ha])]; rfl) (fun h _ => keep_machine fun a e => by cases e) ?_
  rw [starEach_ok ha]
  refine evalArgs_plain (spliced_cons ?_)
  refine h.at_ (ρ := ρ) (m := m) (P := fun _ _ => True) hC a σ φ' mt' im' fr' { s with heap := h', toks := tk' } _ E trivial st' ?_
  change SrcK G C ρ m im₀ φ im fr s Q E ((ev.e a ρ σ).bind k) at hs
  induction ee : ev.e a ρ σ using Res.casesOn with
  | fail => rw [ee] at hs; exact hs.elim
  | exn σ₁ => rw [ee] at hs; exact fun φ₁ mt₁ im₁ fr₁ h₁ tk₁ x₁ y f => hs φ₁ mt₁ im₁ fr₁ h₁ tk₁ x₁ (x'.trans y) f
  | ok o σ₁ =>
    rw [ee] at hs
    intro φ₁ mt₁ im₁ fr₁ h₁ tk₁ v x₁ st₁ r
    exact spliced_nil ⟨trivial, hcall o σ₁ φ₁ mt₁ im₁ fr₁ h₁ tk₁ v (x'.trans x₁) st₁ r (SrcK.ext hs (x'.trans x₁) h₁ tk₁)⟩
theorem enum_made (st₁ : SS G C ρ σ φ mt im fr m s.heap) {o : AV} {b : Addr} {im₀ : Ledger} (hi : ∀ p ∈ im₀, p ∈ im) (r : Rep G φ im o (.ref b)) {Q : Value → Shared → Prop} (hK : SrcK G C ρ m im₀ φ im fr s Q E (.ok (.enum o) σ)) {h' : Heap} {ob : Obj} (hob : h'.get? s.heap.objs.size = some ob) (si : SeqIter o (.ref b) 0 ob)
    (he : IsEnum h' (s.heap.objs.size + 1) s.heap.objs.size 0 .none) (hk : ∀ b o, s.heap.get? b = some o → h'.get? b = some o) : wpAny (model G.prog G.w) C.A (pyIter (.ref (s.heap.objs.size + 1))) Q E { s with heap := h' } := by
  refine wpAny_pyIter_enum (s := { s with heap := h' }) he ?_
  have st₂ := st₁.keeps hk
  have N1 : News G.hb C.env.locals h' ((s.heap.objs.size, ob) :: (mt ++ (im ++ fr))) := fun p hp => by
    rcases List.mem_cons.mp hp with rfl | hp
    · have := st₁.F.ns
      obtain ⟨oL, es, ep, hL, _⟩ := this
      refine ⟨hob, fun q => ?_, ?_⟩
      · have := Heap.lt_size hL
        rw [← q] at this
        exact Nat.lt_irrefl _ this
      · induction q : G.hb.get? s.heap.objs.size using Option.casesOn with
        | none => rfl
        | some o => exact absurd (Heap.lt_size (st₁.F.keep _ o q)) (Nat.lt_irrefl _)
    · exact st₂.N p hp
  have st₃ := st₂.addIm' (o := ob) st₂.F N1 (fun p hp q => by have := st₁.lt hp; rw [q] at this; exact Nat.lt_irrefl _ this) si.plain.2
  have N2 : News G.hb C.env.locals h' ((s.heap.objs.size + 1, enumObj s.heap.objs.size 0 .none) :: (mt ++ (((s.heap.objs.size, ob) :: im) ++ fr))) := fun p hp => by
    rcases List.mem_cons.mp hp with rfl | hp
    · obtain ⟨oL, es, ep, hL, _⟩ := st₁.F.ns
      refine ⟨he, fun q => ?_, ?_⟩
      · have := Heap.lt_size hL
        rw [← q] at this
        exact Nat.lt_irrefl _ (Nat.lt_trans (Nat.lt_succ_self _) this)
      · induction q : G.hb.get? (s.heap.objs.size + 1) using Option.casesOn with
        | none => rfl
        | some o => exact absurd (Heap.lt_size (st₁.F.keep _ o q)) (Nat.not_lt.mpr (Nat.le_succ _))
    · exact st₃.N p hp
  have st₄ := st₃.addIm' (o := enumObj s.heap.objs.size 0 .none) st₃.F N2 (fun p hp q => by
    rcases List.mem_append.mp hp with hp | hp
    · have := st₁.lt (List.mem_append.mpr (.inl hp)); rw [q] at this; exact Nat.lt_irrefl _ (Nat.lt_trans (Nat.lt_succ_self _) this)
    · rcases List.mem_append.mp hp with hp | hp
      · rcases List.mem_cons.mp hp with rfl | hp
        · exact Nat.succ_ne_self _ q.symm
        · have := st₁.lt (List.mem_append.mpr (.inr (List.mem_append.mpr (.inl hp)))); rw [q] at this; exact Nat.lt_irrefl _ (Nat.lt_trans (Nat.lt_succ_self _) this)
      · have := st₁.lt (List.mem_append.mpr (.inr (List.mem_append.mpr (.inr hp)))); rw [q] at this; exact Nat.lt_irrefl _ (Nat.lt_trans (Nat.lt_succ_self _) this)) ⟨fun es n e => (by cases e), fun v e => (by cases e)⟩
  refine hK φ mt _ fr h' s.toks (.ref (s.heap.objs.size + 1)) [s.heap.objs.size + 1, s.heap.objs.size] ((Ext.addIm _).trans (Ext.addIm _)) (st₁.fresh hi fun a ha => ?_) st₄ ?_
  · rcases List.mem_cons.mp ha with rfl | ha
    · exact Nat.le_succ _
    · rw [List.mem_singleton.mp ha]; exact Nat.le_refl _
  · exact ⟨_, _, _, ob, .none, rfl, rfl, Nat.succ_ne_self _, r.ext ((Ext.addIm (fr := fr) _).trans (Ext.addIm (fr := fr) _)), .tail _ (.head _), si, .head _⟩
theorem enum_call (st : SS G C ρ σ φ mt im fr m s.heap) {o : AV} {v : Value} {im₀ : Ledger} (hi : ∀ p ∈ im₀, p ∈ im) (r : Rep G φ im o v) {Q : Value → Shared → Prop} (hs : SrcK G C ρ m im₀ φ im fr s Q E ((toSeq o >>= fun _ => pure (Src.enum o)) σ)) :
    wpAny (model G.prog G.w) C.A (call (.type "enumerate") [v]) (fun x s₁ => wpAny (model G.prog G.w) C.A (pyIter x) Q E s₁) E s := by
  obtain ⟨l, sv, hK⟩ := seq_of (k := fun _ => (pure (Src.enum o) : M Src)) st r (K := SrcK G C ρ m im₀ φ im fr s Q E) (fun q => q) hs
  obtain ⟨b, vs, hv, rl, hlen, hx⟩ := sv.out
  clear hs sv
  subst hv
  rcases hx with ⟨et, hx⟩ | ⟨et, hx⟩
  · refine call_enumerate_list hx fun h' he hi' _ hk => ?_
    obtain ⟨ob, hob, si⟩ := listIter_seq (o := o) et hi'
    exact enum_made st hi r hK hob si he hk
  · refine enumTuple hx fun h' he hi' _ hk => ?_
    obtain ⟨ob, hob, si⟩ := tupleIter_seq (o := o) et hi'
    exact enum_made st hi r hK hob si he hk
theorem range_call (st₁ : SS G C ρ σ φ mt im fr m s.heap) {o : AV} {v : Value} {im₀ : Ledger} (hi : ∀ p ∈ im₀, p ∈ im) (r : Rep G φ im o v) {Q : Value → Shared → Prop} (hs : SrcK G C ρ m im₀ φ im fr s Q E ((onS o.int? fun n => if 0 ≤ n ∧ n ≤ (sizeCap : Int) then pure (Src.range n.toNat) else failM : M Src) σ)) :
    wpAny (model G.prog G.w) C.A (call (.type "range") [v]) (fun x s₁ => wpAny (model G.prog G.w) C.A (pyIter x) Q E s₁) E s := by
  obtain ⟨i, e, hs1⟩ := on_int (K := SrcK G C ρ m im₀ φ im fr s Q E) (fun q => q) hs
  obtain ⟨⟨h0, h1⟩, hK⟩ := on_if (K := SrcK G C ρ m im₀ φ im fr s Q E) (fun q => q) hs1
  clear hs hs1
  subst e
  obtain ⟨t, rfl⟩ : ∃ t, v = .int i t := by unfold Rep at r; exact r
  clear r
  obtain ⟨j, rfl⟩ := Int.eq_ofNat_of_zero_le h0
  have hj : j ≤ sizeCap := Int.ofNat_le.mp h1
  rw [Int.toNat_natCast] at hK
  refine call_range_1 ?_
  have st₂ := st₁.addIm (o := { cls := .type "range", data := .fields #[.int 0 s.toks, .int (j : Int) t, .int 1 (s.toks + 1)] }) (st₁.F.push _) (News.push st₁.F st₁.N _) (Nat.le_refl _) ⟨fun es n e => (by cases e), fun v e => (by cases e)⟩
  have hsz : Builtin.Range.rangeSize 0 (j : Int) 1 = (j : Int) := by rw [rangeSize_one]; split <;> omega
  have hj' : j ≤ 1000 := hj
  refine wpAny_pyIter_range (IsRange.new _ _ _ _ _ _ _) (small_one (by omega) (by omega) (by omega) (by omega)) ?_
  dsimp only
  rw [hsz]
  have st₃ := st₂.addIm (o := rangeObj 0 j) (st₂.F.push _) (News.push st₂.F st₂.N _) (Nat.le_refl _) ⟨fun es n e => (by cases e), fun v e => (by cases e)⟩
  have ee' : rangeObj 0 j = { cls := .type "range_iterator", data := .fields #[rawInt 0, rawInt (j : Int), rawInt 1] } := by
    show ({ cls := .type "range_iterator", dict := none, data := .fields #[rawInt ((0 : Nat) : Int), rawInt ((j : Int) - ((0 : Nat) : Int)), rawInt 1], slots := #[] } : Obj) = _
    simp
  rw [ee'] at st₃
  refine hK φ mt _ fr _ _ _ [_] ((Ext.addIm _).trans (Ext.addIm _)) (st₁.fresh hi fun a ha => ?_) st₃ ⟨_, rfl, rfl, Nat.zero_le _, hj, ?_⟩
  · rw [List.mem_singleton.mp ha]
    show s.heap.objs.size ≤ (s.heap.push _).objs.size
    rw [Heap.size_push]; exact Nat.le_succ _
  · rw [ee']; exact .head _

theorem src_okK {ev : Ev} (ok : G.Ok) (h : EvSim G n ev) (hC : C.Ok n) (st : SS G C ρ σ φ mt im fr m s.heap) {e : Expr} {Q : Value → Shared → Prop} (hs : SrcK G C ρ m im φ im fr s Q E (iterSrc G.tb ev.e ρ e σ)) :
    notSet e = true ∧ wpAny (model G.prog G.w) C.A (eval e C.env) (fun x s₁ => wpAny (model G.prog G.w) C.A (pyIter x) Q E s₁) E s := by
  unfold iterSrc at hs
  induction hcn : callName e using Option.casesOn with
  | none =>
    rw [hcn] at hs
    obtain ⟨he, hs⟩ := on_if (K := SrcK G C ρ m im φ im fr s Q E) (fun q => q) hs
    exact ⟨notSet_ok he, src_plain h hC st (fun _ hp => hp) hs⟩
  | some xa =>
    obtain ⟨x, a⟩ := xa
    rw [hcn] at hs
    obtain ⟨px, pos, hx⟩ := callName_some hcn
    clear hcn
    subst hx
    refine ⟨rfl, ?_⟩
    change SrcK G C ρ m im φ im fr s Q E ((if isType "enumerate" (ρ.get G.tb x) = true then (if (okE a && x != ("__debug__" : Str)) = true then do
      let v ← ev.e a ρ
      let _ ← toSeq v
      pure (.enum v) else failM)
    else if isType "range" (ρ.get G.tb x) = true then (if (okE a && x != ("__debug__" : Str)) = true then do
      let v ← ev.e a ρ
      onS v.int? fun n => if 0 ≤ n ∧ n ≤ (sizeCap : Int) then pure (.range n.toNat) else failM else failM)
    else failM : M Src) σ) at hs
    by_cases hT : isType "enumerate" (ρ.get G.tb x) = true
    · rw [if_pos hT] at hs
      obtain ⟨hc, hs1⟩ := on_if (K := SrcK G C ρ m im φ im fr s Q E) (fun q => q) hs
      clear hs
      obtain ⟨ha, hd⟩ := (Bool.and_eq_true _ _).mp hc
      exact src_typed ok h hC st (isType_top hT) ha (by simpa using hd) hs1 fun o σ₁ φ₁ mt₁ im₁ fr₁ h₁ tk₁ v X st₁ r hK => enum_call (s := { s with heap := h₁, toks := tk₁ }) st₁ X.im r hK
    · rw [if_neg hT] at hs
      obtain ⟨hT, hs0⟩ := on_if (K := SrcK G C ρ m im φ im fr s Q E) (fun q => q) hs
      obtain ⟨hc, hs1⟩ := on_if (K := SrcK G C ρ m im φ im fr s Q E) (fun q => q) hs0
      clear hs hs0
      obtain ⟨ha, hd⟩ := (Bool.and_eq_true _ _).mp hc
      exact src_typed ok h hC st (isType_top hT) ha (by simpa using hd) hs1 fun o σ₁ φ₁ mt₁ im₁ fr₁ h₁ tk₁ v X st₁ r hK => range_call (s := { s with heap := h₁, toks := tk₁ }) st₁ X.im r hK
theorem src_ok {ev : Ev} (ok : G.Ok) (h : EvSim G n ev) (hC : C.Ok n) (st : SS G C ρ σ φ mt im fr m s.heap) {e : Expr} {Q : Value → Shared → Prop} (hf : iterSrc G.tb ev.e ρ e σ ≠ .fail)
    (hok : ∀ src σ', iterSrc G.tb ev.e ρ e σ = .ok src σ' → ∀ φ' mt' im' fr' h' tk it its, Ext φ im fr φ' im' fr' → (∀ p ∈ im, p.1 ∉ its) → SS G C ρ σ' φ' mt' im' fr' m h' → ItRep G src 0 it its φ' im' → Q it { s with heap := h', toks := tk })
    (hex : ∀ σ', iterSrc G.tb ev.e ρ e σ = .exn σ' → ∀ φ' mt' im' fr' h' tk e', Ext φ im fr φ' im' fr' → Fly G C σ' φ' mt' im' fr' m e' h' → E (.ref e') { s with heap := h', toks := tk }) :
    notSet e = true ∧ wpAny (model G.prog G.w) C.A (eval e C.env) (fun x s₁ => wpAny (model G.prog G.w) C.A (pyIter x) Q E s₁) E s := by
  refine src_okK ok h hC st ?_
  generalize iterSrc G.tb ev.e ρ e σ = r at hf hok hex
  induction r using Res.casesOn with
  | ok src σ' => exact hok src σ' rfl
  | exn σ' => exact hex σ' rfl
  | fail => exact hf rfl
end states
end Mine
end
section
namespace Mine
open PySem PySem.W PySem.Calls PyProof.Rows

section states
variable {G : Gd} {C : Act} {ρ : LEnv} {σ : AHeap} {φ : Ids} {mt im fr : Ledger} {m : Str → Option Value} {h h' : Heap} {n : Nat}

structure Aside (G : Gd) (C : Act) (mt im fr : Ledger) (a : Addr) : Prop where
  led : ∀ p ∈ mt ++ (im ++ fr), p.1 ≠ a
  loc : C.env.locals ≠ a
  hb : G.hb.get? a = none
theorem SS.but (st : SS G C ρ σ φ mt im fr m h) {a : Addr} (ap : Aside G C mt im fr a) (hs : Heap.SameBut a h h') : SS G C ρ σ φ mt im fr m h' :=
  st.same ⟨st.F.ns.sameBut hs ap.loc, fun b o e => (hs.2 b (fun q => by subst q; rw [ap.hb] at e; exact (no_ns e).elim)).trans (st.F.keep b o e), st.F.above⟩
    fun p hp => ⟨(hs.2 _ (ap.led p hp)).trans (st.N p hp).1, (st.N p hp).2⟩

theorem SS.addFr (st : SS G C ρ σ φ mt im fr m h) {o : Obj} (hf : o.isFreed = false) (hc : IsL o) : SS G C ρ σ φ mt im ((h.objs.size, o) :: fr) m (h.push o) := by
  have F' := st.F.push o
  have N' := News.push st.F st.N o (hfree := hf)
  refine { st with F := F', N := fun p hp => N' p ?_, sep := ?_, sepf := ?_, frd := ?_, cell := ?_, frm := ?_ }
  · rcases List.mem_append.mp hp with hp | hp
    · exact .tail _ (List.mem_append.mpr (.inl hp))
    · rcases List.mem_append.mp hp with hp | hp
      · exact .tail _ (List.mem_append.mpr (.inr (List.mem_append.mpr (.inl hp))))
      · rcases List.mem_cons.mp hp with rfl | hp
        · exact .head _
        · exact .tail _ (List.mem_append.mpr (.inr (List.mem_append.mpr (.inr hp))))
  · intro p hp q hq
    rcases List.mem_append.mp hq with hq | hq
    · exact st.sep p hp q (List.mem_append.mpr (.inl hq))
    · rcases List.mem_cons.mp hq with rfl | hq
      · exact Nat.ne_of_lt (st.lt (List.mem_append.mpr (.inl hp)))
      · exact st.sep p hp q (List.mem_append.mpr (.inr hq))
  · intro p hp q hq
    rcases List.mem_cons.mp hq with rfl | hq
    · exact Nat.ne_of_lt (st.lt (List.mem_append.mpr (.inr (List.mem_append.mpr (.inl hp)))))
    · exact st.sepf p hp q hq
  · intro q hq
    rcases List.mem_cons.mp hq with rfl | hq
    · exact .inr (.inr hc)
    · exact st.frd q hq
  · intro x k
    obtain ⟨c, ob, v₀, e1, e2, e3, e4⟩ := st.cell x k
    exact ⟨c, ob, v₀, e1, .tail _ e2, e3, e4⟩
  · intro env he
    obtain ⟨k1, b, k2, k3⟩ := st.frm env he
    refine ⟨k1, b, k2, ?_⟩
    rcases k3 with rfl | ⟨ob, es, nn, f1, f2⟩
    · exact .inl rfl
    · exact .inr ⟨ob, es, nn, .tail _ f1, f2⟩

noncomputable def offL (L D : Addr) (fr : Ledger) : Ledger := fr.filter fun p => decide (p.1 ≠ L) && decide (p.1 ≠ D)
theorem mem_offL {L D : Addr} {fr : Ledger} {p : Addr × Obj} : p ∈ offL L D fr ↔ p ∈ fr ∧ p.1 ≠ L ∧ p.1 ≠ D := by
  unfold offL
  simp [List.mem_filter]

theorem comp_leave {scope : Scope} {Lc D : Addr} {oL : Obj} {σ' : AHeap} {φ' : Ids} {mt' im' fr' : Ledger} {m' : Str → Option Value} {ρ' : LEnv} {us : List Value} {nn : Nat}
    (st : SS G C ρ σ φ mt im fr m h) (hgL : ∃ es ep, oL.data = .dict es ep) (hns : ∀ (hh : Heap) (sl : Array (Option Value)), hh.get? C.env.locals = some { oL with slots := sl } → hh.Ns C.env.locals m)
    (st' : SS G (C.comp scope Lc) ρ' σ' φ' mt' im' fr' m' h') (hφ : φ <+: φ') (him : ∀ p ∈ im, p ∈ im') (hfr : ∀ p ∈ fr, FrIn p fr') (hDfr : ∀ p ∈ fr, p.1 ≠ D) (hL : FrIn (C.env.locals, oL) fr') (hacc : (D, W.listOf us.toArray nn) ∈ fr') (hDL : D ≠ C.env.locals) :
    SS G C ρ σ' φ' mt' ((D, W.listOf us.toArray nn) :: im') (offL C.env.locals D fr') m h' ∧ Ext φ im fr φ' ((D, W.listOf us.toArray nn) :: im') (offL C.env.locals D fr') ∧ Aside G C mt' ((D, W.listOf us.toArray nn) :: im') (offL C.env.locals D fr') Lc := by
  obtain ⟨sl, hLm, _⟩ := hL
  have gL := st'.frIn hLm
  dsimp only at gL
  have frIn' : ∀ p ∈ fr, FrIn p (offL C.env.locals D fr') := fun p hp => by
    obtain ⟨s1, h1, h2⟩ := hfr p hp
    exact ⟨s1, mem_offL.mpr ⟨h1, (st.N p (List.mem_append.mpr (.inr (List.mem_append.mpr (.inr hp))))).2.1, hDfr p hp⟩, h2⟩
  have hi : ∀ p ∈ im, (p.2.cls = .type "tuple" ∨ p.2.cls = .type "list") → p ∈ (D, W.listOf us.toArray nn) :: im' := fun p hp _ => .tail _ (him p hp)
  have all : ∀ p ∈ mt' ++ (((D, W.listOf us.toArray nn) :: im') ++ offL C.env.locals D fr'), p ∈ mt' ++ (im' ++ fr') := fun p hp => by
    rcases List.mem_append.mp hp with hp | hp
    · exact List.mem_append.mpr (.inl hp)
    · rcases List.mem_append.mp hp with hp | hp
      · rcases List.mem_cons.mp hp with rfl | hp
        · exact List.mem_append.mpr (.inr (List.mem_append.mpr (.inr hacc)))
        · exact List.mem_append.mpr (.inr (List.mem_append.mpr (.inl hp)))
      · exact List.mem_append.mpr (.inr (List.mem_append.mpr (.inr (mem_offL.mp hp).1)))
  have notL : ∀ p ∈ mt' ++ (((D, W.listOf us.toArray nn) :: im') ++ offL C.env.locals D fr'), p.1 ≠ C.env.locals := fun p hp => by
    rcases List.mem_append.mp hp with hp | hp
    · exact st'.sep p hp _ (List.mem_append.mpr (.inr hLm))
    · rcases List.mem_append.mp hp with hp | hp
      · rcases List.mem_cons.mp hp with rfl | hp
        · exact hDL
        · exact st'.sepf p hp _ hLm
      · exact (mem_offL.mp hp).2.1
  have hiM : ∀ p ∈ im', (p.2.cls = .type "tuple" ∨ p.2.cls = .type "list") → p ∈ (D, W.listOf us.toArray nn) :: im' := fun p hp _ => .tail _ hp
  refine ⟨⟨⟨hns h' sl gL, st'.F.keep, st.F.above⟩, fun p hp => ⟨(st'.N p (all p hp)).1, notL p hp, (st'.N p (all p hp)).2.2⟩, st'.nd, fun p hp q hq => ?_, fun p hp q hq => ?_, fun q hq => ?_, fun q hq => st'.frd q (mem_offL.mp hq).1, st'.hp.mono hiM, st.kinds, fun x av e k => ?_, fun x k => ?_, st.apart, fun env he => ?_⟩,
    ⟨hφ, fun p hp => .tail _ (him p hp), frIn'⟩, ⟨fun p hp => (st'.N p (all p hp)).2.1, fun q => ?_, ?_⟩⟩
  · rcases List.mem_append.mp hq with hq | hq
    · rcases List.mem_cons.mp hq with rfl | hq
      · exact st'.sep p hp _ (List.mem_append.mpr (.inr hacc))
      · exact st'.sep p hp q (List.mem_append.mpr (.inl hq))
    · exact st'.sep p hp q (List.mem_append.mpr (.inr (mem_offL.mp hq).1))
  · rcases List.mem_cons.mp hp with rfl | hp
    · exact (mem_offL.mp hq).2.2.symm
    · exact st'.sepf p hp q (mem_offL.mp hq).1
  · rcases List.mem_cons.mp hq with rfl | hq
    · exact ⟨fun es n e => (by cases e), fun v e => (by cases e)⟩
    · exact st'.imk q hq
  · obtain ⟨v, e1, e2⟩ := st.loc x av e k
    exact ⟨v, e1, Rep.mono G hφ hi e2⟩
  · obtain ⟨c, o, v₀, e1, e2, e3, e4⟩ := st.cell x k
    obtain ⟨s1, h1, h2⟩ := frIn' _ e2
    refine ⟨c, _, v₀, e1, h1, e3, fun av e => ?_⟩
    obtain ⟨v, e5, e6⟩ := e4 av e
    exact ⟨v, e5, Rep.mono G hφ hi e6⟩
  · obtain ⟨k1, b, k2, k3⟩ := st.frm env he
    refine ⟨k1, b, k2, ?_⟩
    rcases k3 with rfl | ⟨o, es, nn', f1, f2⟩
    · exact .inl rfl
    · obtain ⟨s1, h1, _⟩ := frIn' _ f1
      exact .inr ⟨_, es, nn', h1, f2⟩
  · exact (st'.N _ (List.mem_append.mpr (.inr (List.mem_append.mpr (.inr hLm))))).2.1 q
  · induction q : G.hb.get? Lc using Option.casesOn with
    | none => rfl
    | some o => exact absurd (Heap.lt_size q) (Nat.not_lt.mpr st'.F.above)

theorem funFrames_less {h B B' : Heap} (hb : ∀ a, B.get? a = none → B'.get? a = none) : ∀ {l : List Env}, h.FunFrames B l → h.FunFrames B' l
  | [], _ => trivial
  | _ :: _, ⟨hk, ⟨L, o, hf, hn, ho, hd⟩, hr⟩ => ⟨hk, ⟨L, o, hf, hb L hn, ho, hd⟩, funFrames_less hb hr⟩
theorem traced_less {h B B' : Heap} {e : Addr} {cls a0 fl : Value} (hb : ∀ a, B.get? a = none → B'.get? a = none) (t : h.TracedAtW B e cls a0 fl) : h.TracedAtW B' e cls a0 fl := by
  obtain ⟨oe, vs, T, oT, ts, he, hcls, hd, h1, hnT, r⟩ := t
  exact ⟨oe, vs, T, oT, ts, he, hcls, hd, h1, hb T hnT, r⟩

theorem comp_fly {scope : Scope} {Lc D : Addr} {oL : Obj} {σ' : AHeap} {φ' : Ids} {mt' im' fr' : Ledger} {m' : Str → Option Value} {e : Addr} {h'' : Heap}
    (st : SS G C ρ σ φ mt im fr m h) (hgL : ∃ es ep, oL.data = .dict es ep) (hns : ∀ (hh : Heap) (sl : Array (Option Value)), hh.get? C.env.locals = some { oL with slots := sl } → hh.Ns C.env.locals m)
    (f : Fly G (C.comp scope Lc) σ' φ' mt' im' fr' m' e h') (hφ : φ <+: φ') (him : ∀ p ∈ im, p ∈ im') (hfr : ∀ p ∈ fr, FrIn p fr') (hDfr : ∀ p ∈ fr, p.1 ≠ D) (hL : FrIn (C.env.locals, oL) fr') (hs : Heap.SameBut Lc h' h'') (hxe : ∀ o, h'.get? Lc = some o → ∀ vs, o.data ≠ .fields vs) (hfe : ∀ env ∈ C.fenv :: C.outer, env.frame ≠ some Lc) :
    Fly G C σ' φ' mt' im' (offL C.env.locals D fr') m e h'' ∧ Ext φ im fr φ' im' (offL C.env.locals D fr') := by
  obtain ⟨sl, hLm, _⟩ := hL
  have gL := (f.frs _ hLm).1
  dsimp only at gL
  have neLc : ∀ p ∈ mt' ++ (im' ++ fr'), p.1 ≠ Lc := f.own
  have hLne : C.env.locals ≠ Lc := neLc _ (List.mem_append.mpr (.inr (List.mem_append.mpr (.inr hLm))))
  obtain ⟨B, a0, fl, b1, b2, b3, b4, b5, b6, b7⟩ := f.out
  have hb : ∀ a, B.get? a = none → (B.hide Lc).get? a = none := fun a e => by
    induction q : (B.hide Lc).get? a using Option.casesOn with
    | none => rfl
    | some o => rw [Heap.of_hide q] at e; exact (no_sn e).elim
  have hide : ∀ a o, a ≠ Lc → B.get? a = some o → (B.hide Lc).get? a = some o := fun a o hne e => (Heap.hide_ne B hne).trans e
  have hbLc : G.hb.get? Lc = none := by
    induction q : G.hb.get? Lc using Option.casesOn with
    | none => rfl
    | some o => exact absurd (Heap.lt_size q) (Nat.not_lt.mpr f.abv)
  have keep : ∀ a o, a ≠ Lc → h'.get? a = some o → h''.get? a = some o := fun a o hne e => (hs.2 a hne).trans e
  refine ⟨⟨hns h'' sl (keep _ _ hLne gL), st.F.above, ⟨B.hide Lc, a0, fl, fun b o e => ?_, fun q hq => ?_, fun q hq hc => ?_, fun b o e => ?_, hb _ b5, ?_, ?_⟩, fun q hq => ?_, f.new, fun q hq => ?_, f.nd, fun p hp q hq => ?_, fun p hp q hq => ?_, f.imk, fun q hq => f.frd q (mem_offL.mp hq).1, f.hp⟩, ⟨hφ, him, fun p hp => ?_⟩⟩
  · exact hide b o (fun q => by subst q; rw [hbLc] at e; exact (no_ns e).elim) (b1 b o e)
  · refine hide _ _ (neLc q ?_) (b2 q hq)
    rcases List.mem_append.mp hq with hq | hq
    · exact List.mem_append.mpr (.inl hq)
    · exact List.mem_append.mpr (.inr (List.mem_append.mpr (.inl hq)))
  · exact hide _ _ (neLc q (List.mem_append.mpr (.inr (List.mem_append.mpr (.inr (mem_offL.mp hq).1))))) (b3 q (mem_offL.mp hq).1 hc)
  · have hne : b ≠ Lc := fun q => by subst q; rw [Heap.hide_self] at e; exact (no_ns e).elim
    exact keep b o hne (b4 b o (Heap.of_hide e))
  · refine funFrames_less hb ?_
    have go : ∀ {l : List Env}, (∀ env ∈ l, env.frame ≠ some Lc) → h'.FunFrames B l → h''.FunFrames B l := fun {l} => by
      induction l with
      | nil => intro _ _; trivial
      | cons env l ih =>
        rintro hne ⟨hk, ⟨L, o, hf, hn, ho, hd⟩, hr⟩
        exact ⟨hk, ⟨L, o, hf, hn, keep L o (fun q => hne env (.head _) (by rw [hf, q])) ho, hd⟩, ih (fun env he => hne env (.tail _ he)) hr⟩
    exact go hfe b6
  · refine traced_less hb ?_
    obtain ⟨oe, vs, T, oT, ts, he, hcls, hd, h1, hnT, hTe, hT, hdT, h3⟩ := b7
    have e1 : e ≠ Lc := fun q => by subst q; exact hxe oe he vs hd
    have e2 : T ≠ Lc := fun q => by subst q; exact hxe oT hT ts hdT
    exact ⟨oe, vs, T, oT, ts, keep e oe e1 he, hcls, hd, h1, hnT, hTe, keep T oT e2 hT, hdT, h3⟩
  · have hq := mem_offL.mp hq
    exact ⟨keep _ _ (neLc q (List.mem_append.mpr (.inr (List.mem_append.mpr (.inr hq.1))))) (f.frs q hq.1).1, (f.frs q hq.1).2⟩
  · rcases List.mem_append.mp hq with hq | hq
    · exact f.sep q hq _ (List.mem_append.mpr (.inr hLm))
    · rcases List.mem_append.mp hq with hq | hq
      · exact f.sepf q hq _ hLm
      · exact (mem_offL.mp hq).2.1
  · rcases List.mem_append.mp hq with hq | hq
    · exact f.sep p hp q (List.mem_append.mpr (.inl hq))
    · exact f.sep p hp q (List.mem_append.mpr (.inr (mem_offL.mp hq).1))
  · exact f.sepf p hp q (mem_offL.mp hq).1
  · obtain ⟨s1, h1, h2⟩ := hfr p hp
    exact ⟨s1, mem_offL.mpr ⟨h1, (st.N p (List.mem_append.mpr (.inr (List.mem_append.mpr (.inr hp))))).2.1, hDfr p hp⟩, h2⟩
end states
end Mine
end
section
namespace Mine
open PySem PySem.W PySem.Calls PyProof.Rows

section states
variable {G : Gd} {C : Act} {ρ : LEnv} {σ : AHeap} {φ : Ids} {mt im fr : Ledger} {m : Str → Option Value} {n : Nat} {E : Value → Shared → Prop} {s : Shared}

theorem iter_self (st : SS G C ρ σ φ mt im fr m s.heap) {src : Src} {it : Value} {its : List Addr} {φ' : Ids} (ir : ItRep G src 0 it its φ' im) {Q : Value → Shared → Prop} (h : Q it s) : wpAny (model G.prog G.w) C.A (pyIter it) Q E s := by
  induction src using Src.casesOn with
  | seq o =>
    obtain ⟨I, v, ob, rfl, rfl, r, hm, l, rfl, hc, hd⟩ := ir
    induction ht : isTupAV o using Bool.casesOn with
    | false => rw [ht] at hc; exact wpAny_pyIter_listiter ⟨ob, st.imIn hm, hc, hd⟩ h
    | true =>
      rw [ht] at hc
      exact wpAny_pyIter_tupleiter ⟨ob, st.imIn hm, hc, hd⟩ h
  | range nn =>
    obtain ⟨I, rfl, rfl, _, _, hm⟩ := ir
    exact wpAny_pyIter_rangeiter (st.imIn hm) h
  | enum o =>
    obtain ⟨e, I, v, ob, old, rfl, rfl, hne, r, hm, si, hme⟩ := ir
    exact wpAny_pyIter_enum (st.imIn hme) h
end states

noncomputable def compAct (T : Tabs) (ev : Ev) (ρ : LEnv) (elt target iter : Expr) (ifs : List Expr) (scope : Scope) : M AV := do
    let src ← iterSrc T ev.e ρ iter
    if srcFor target src then do
      let vs ← compLoop ev target elt ifs src loopFuel 0 (ρ.comp scope)
      pure (.lst vs)
    else failM

section states
variable {G : Gd} {C : Act} {ρ : LEnv} {σ : AHeap} {φ : Ids} {mt im fr : Ledger} {m : Str → Option Value} {n : Nat} {E : Value → Shared → Prop} {s : Shared}

theorem comp_run {ev : Ev} (ok : G.Ok) (h : EvSim G n ev) (hC : C.Ok n) (st : SS G C ρ σ φ mt im fr m s.heap) {elt target iter : Expr} {ifs : List Expr} {scope : Scope} {pos : Pos} (hs : compNames ρ scope) {RR : Value → Addr → Result → Shared → Prop}
    (hf : compAct G.tb ev ρ elt target iter ifs scope σ ≠ .fail)
    (hok : ∀ l σ', compAct G.tb ev ρ elt target iter ifs scope σ = .ok (.lst l) σ' → ∀ D Lc h' tk φ' mt' im' fr' mc, Ext φ im fr φ' im' fr' → SS G C ρ σ' φ' mt' im' fr' m h' → Aside G C mt' im' fr' Lc → h'.Ns Lc mc → Rep G φ' im' (.lst l) (.ref D) →
      RR (.ref D) Lc (.ok .next) { s with heap := h', toks := tk })
    (hex : ∀ σ', compAct G.tb ev ρ elt target iter ifs scope σ = .exn σ' → ∀ acc Lc h' tk e mc, h'.Ns Lc mc → (∀ h'', Heap.SameBut Lc h' h'' → ∃ φ' mt' im' fr', Ext φ im fr φ' im' fr' ∧ Fly G C σ' φ' mt' im' fr' m e h'') → RR acc Lc (.error (.ref e)) { s with heap := h', toks := tk })
    (hexE : ∀ σ', compAct G.tb ev ρ elt target iter ifs scope σ = .exn σ' → ∀ φ' mt' im' fr' h' tk e', Ext φ im fr φ' im' fr' → Fly G C σ' φ' mt' im' fr' m e' h' → E (.ref e') { s with heap := h', toks := tk }) :
    notSet iter = true ∧ wpAny (model G.prog G.w) C.A (eval iter C.env) (fun x s₁ => wpAny (model G.prog G.w) C.A (pyIter x) (fun it s₂ => wpAny (model G.prog G.w) C.A (newList []) (fun acc s₃ =>
      wpAny (model G.prog G.w) C.A (newFunctionEnv scope C.env.globals (closL C.env scope.names []) [] C.env.qual none .none (some C.env)) (fun cenv s₄ =>
        codeAny (model G.prog G.w) C.A (.compStart (.ListComp elt [⟨target, iter, ifs, 0⟩] scope pos) 0 it acc { cenv with scope := relabel scope C.env }) (RR acc cenv.locals) s₄) E s₃) E s₂) E s₁) E s := by
  have hstep : compAct G.tb ev ρ elt target iter ifs scope σ = (iterSrc G.tb ev.e ρ iter σ).bind fun src => if srcFor target src = true then (compLoop ev target elt ifs src loopFuel 0 (ρ.comp scope) >>= fun vs => pure (.lst vs)) else failM := rfl
  rw [hstep] at hf hok hex hexE
  refine src_ok ok h hC st (fun q => hf (by rw [q]; rfl)) ?_ (fun σ' q => hexE σ' (by rw [q]; rfl))
  intro src σ₁ esrc φ₁ mt₁ im₁ fr₁ h₁ tk₁ it its x₁ hits st₁ ir
  rw [esrc] at hf hok hex
  have e1 : ((Res.ok src σ₁).bind fun src => if srcFor target src = true then (compLoop ev target elt ifs src loopFuel 0 (ρ.comp scope) >>= fun vs => (pure (.lst vs) : M AV)) else failM) =
      (if srcFor target src = true then (compLoop ev target elt ifs src loopFuel 0 (ρ.comp scope) >>= fun vs => (pure (.lst vs) : M AV)) else failM) σ₁ := rfl
  rw [e1] at hf hok hex
  by_cases hsrc : srcFor target src = true
  · rw [if_pos hsrc] at hf hok hex
    refine wpAny_newObj_type ?_ (by show 0 ≤ sizeLine; exact Nat.zero_le _)
    dsimp only
    have stD := st₁.addFr (o := W.listOf ([] : List Value).toArray 0) rfl ⟨rfl, _, _, rfl⟩
    have hcell : ∀ x ∈ scope.names, x.2 ≠ .cell := fun x hx q => by
      rcases (hs.kinds x hx).1 with h | h | h <;> rw [h] at q <;> cases q
    refine wpAny_newFunctionEnv hcell (fun x hx => by cases hx) (fun h₃ hns₃ hsb₃ => ?_) hs.kind
    dsimp only at hns₃ hsb₃ ⊢
    generalize hH : h₁.push { cls := .type "list", dict := none, data := .seq ([] : List Value).toArray } = H at hns₃ hsb₃ ⊢
    have stD' : SS G C ρ σ₁ φ₁ mt₁ im₁ ((h₁.objs.size, W.listOf ([] : List Value).toArray 0) :: fr₁) m H := hH ▸ stD
    have keep : ∀ b o, H.get? b = some o → h₃.get? b = some o := fun b o g => hsb₃.extBut b o (Nat.ne_of_lt (Heap.lt_size g)) (Heap.get?_push_of_some _ g)
    obtain ⟨oL, gL, ⟨es, ep, dL⟩, stC⟩ := comp_enter stD' hC hs (Nat.le_refl _) hns₃ keep
    have hnsL : ∀ (hh : Heap) (sl : Array (Option Value)), hh.get? C.env.locals = some { oL with slots := sl } → hh.Ns C.env.locals m := fun hh sl g => by
      obtain ⟨o, es', ep', g', d', rest⟩ := stD'.F.ns
      rw [gL] at g'
      cases g'
      exact ⟨_, es', ep', g, d', rest⟩
    have hDn : ∀ p ∈ mt₁ ++ (im₁ ++ fr₁), p.1 ≠ h₁.objs.size := fun p hp => Nat.ne_of_lt (st₁.lt hp)
    have hDits : h₁.objs.size ∉ its := fun hi => by
      have key : ∀ {a : Addr} {o : Obj}, (a, o) ∈ im₁ → h₁.objs.size = a → False := fun hm q => hDn _ (List.mem_append.mpr (.inr (List.mem_append.mpr (.inl hm)))) q.symm
      induction src using Src.casesOn with
      | seq o => obtain ⟨I, v, ob, rfl, rfl, r, hm, si⟩ := ir; exact key hm (List.mem_singleton.mp hi)
      | range nn => obtain ⟨I, rfl, rfl, _, _, hm⟩ := ir; exact key hm (List.mem_singleton.mp hi)
      | enum o =>
        obtain ⟨e, I, v, ob, old, rfl, rfl, hne, r, hm, si, hme⟩ := ir
        simp only [List.mem_cons, List.not_mem_nil, or_false] at hi
        rcases hi with hi | hi
        · exact key hme hi
        · exact key hm hi
    have hLD : h₁.objs.size ≠ C.env.locals := by
      have := (stD'.N (h₁.objs.size, W.listOf ([] : List Value).toArray 0) (List.mem_append.mpr (.inr (List.mem_append.mpr (.inr (.head _)))))).2.1
      exact this
    have hCc := comp_ok hC hs.kind H.objs.size
    have hns : ∀ x k, scope.names.lookup x = some k → k ≠ .cell := fun x k e => hcell (x, k) (lookup_mem e)
    have henv : ({ newEnv scope H.objs.size C.env.globals (closL C.env scope.names []) C.env.qual none .none (some C.env) C.env.builtins with scope := relabel scope C.env } : Env) = (C.comp scope H.objs.size).env := rfl
    have base : ∀ {φ' im' fr'}, ExtC its h₁.objs.size φ₁ im₁ ((C.env.locals, oL) :: (h₁.objs.size, W.listOf ([] : List Value).toArray 0) :: fr₁) φ' im' fr' → φ <+: φ' ∧ (∀ p ∈ im, p ∈ im') ∧ (∀ p ∈ fr, FrIn p fr') ∧ (∀ p ∈ fr, p.1 ≠ h₁.objs.size) ∧ FrIn (C.env.locals, oL) fr' := fun x => by
      have frD : ∀ p ∈ fr, p.1 ≠ h₁.objs.size := fun p hp => by
        obtain ⟨sl, h, _⟩ := x₁.fr p hp
        exact hDn (p.1, { p.2 with slots := sl }) (List.mem_append.mpr (.inr (List.mem_append.mpr (.inr h))))
      refine ⟨x₁.ids.trans x.ids, fun p hp => x.im p (x₁.im p hp) (hits p hp), fun p hp => (x₁.fr p hp).trans fun q hq e => x.fr q (.tail _ (.tail _ hq)) (e ▸ frD p hp), frD, x.fr _ (.head _) (Ne.symm hLD)⟩
    have loop : ∀ s₃ : Shared, s₃ = { s with heap := h₃, toks := tk₁ + ([] : List (Str × Value)).length } → codeAny (model G.prog G.w) C.A (.compLoop (.ListComp elt [⟨target, iter, ifs, 0⟩] scope pos) 0 it (.ref h₁.objs.size) (C.comp scope H.objs.size).env) (RR (.ref h₁.objs.size) H.objs.size) s₃ := by
      rintro s₃ rfl
      refine comp_loop (C := C.comp scope H.objs.size) h hCc hns hC.frm hsrc loopFuel 0 (ρ.comp scope) σ₁ φ₁ mt₁ im₁ _ _ _ [] 0 _ rfl stC ir (.tail _ (.head _)) (by unfold loopFuel; simp) ?_
      have K0 : ∀ r, compLoop ev target elt ifs src loopFuel 0 (ρ.comp scope) σ₁ = r → CompK G (C.comp scope H.objs.size) its h₁.objs.size φ₁ im₁ ((C.env.locals, oL) :: (h₁.objs.size, W.listOf ([] : List Value).toArray 0) :: fr₁) { s with heap := h₃, toks := tk₁ + ([] : List (Str × Value)).length } [] (RR (.ref h₁.objs.size) H.objs.size) r := fun r el => ?_
      · exact K0 _ rfl
      induction r using Res.casesOn with
      | fail => exact hf (by show (compLoop ev target elt ifs src loopFuel 0 (ρ.comp scope) σ₁).bind _ = _; rw [el]; rfl)
      | ok l σ' =>
        intro ρ' φ' mt' im' fr' m' h' tk us nn' x s' ha rl
        obtain ⟨b1, b2, b3, b4, b5⟩ := base x
        obtain ⟨s2, x2, as2⟩ := comp_leave (us := [] ++ us) (nn := nn') st ⟨es, ep, dL⟩ hnsL s' b1 b2 b3 b4 b5 ha hLD
        refine hok l σ' (by show (compLoop ev target elt ifs src loopFuel 0 (ρ.comp scope) σ₁).bind _ = _; rw [el]; rfl) h₁.objs.size H.objs.size h' tk φ' mt' _ _ m' x2 s2 as2 s'.F.ns ?_
        unfold Rep
        exact ⟨_, us, nn', rfl, .head _, rl.ext (Ext.addIm (fr := fr') _)⟩
      | exn σ' =>
        intro φ' mt' im' fr' m' h' tk e x f
        obtain ⟨b1, b2, b3, b4, b5⟩ := base x
        refine hex σ' (by show (compLoop ev target elt ifs src loopFuel 0 (ρ.comp scope) σ₁).bind _ = _; rw [el]; rfl) _ H.objs.size h' tk e m' f.ns fun h'' hs'' => ?_
        obtain ⟨o, es', ep', g', d', _⟩ := f.ns
        obtain ⟨f2, x2⟩ := comp_fly st ⟨es, ep, dL⟩ hnsL f b1 b2 b3 b4 b5 hs'' (fun o' g vs hd => by
          have g' : h'.get? H.objs.size = some o := g'
          rw [g'] at g; cases g; rw [d'] at hd; cases hd) fun env he q => by
            obtain ⟨_, b, k2, k3⟩ := stD'.frm env he
            rw [q] at k2
            cases k2
            rcases k3 with k3 | ⟨o1, es1, n1, f1, _⟩
            · obtain ⟨oo, _, _, go, _⟩ := stD'.F.ns
              exact Nat.lt_irrefl _ (k3 ▸ Heap.lt_size go)
            · exact Nat.lt_irrefl _ (Heap.lt_size (stD'.frIn f1))
        exact ⟨φ', mt', im', _, x2, f2⟩
    show codeAny (model G.prog G.w) C.A (.compStart (.ListComp elt [⟨target, iter, ifs, 0⟩] scope pos) 0 it (.ref h₁.objs.size) (C.comp scope H.objs.size).env) (RR (.ref h₁.objs.size) H.objs.size) _
    exact codeAny_compStart_list (loop _ rfl) (iter_self (C := C.comp scope H.objs.size) stC ir (loop _ rfl))
  · rw [if_neg hsrc] at hf; exact absurd rfl hf
end states
end Mine
end
section
namespace Mine
open PySem PySem.W PySem.Calls PyProof.Rows

section rules
variable {G : Gd} {C : Act} {ρ : LEnv} {m : Str → Option Value} {P : Pre} {n : Nat} {ev : Ev}

theorem comp_closure {σ : AHeap} {φ : Ids} {mt im fr : Ledger} {h : Heap} (st : SS G C ρ σ φ mt im fr m h) {scope : Scope} (hs : compNames ρ scope) : closureFor scope C.env = pure (closL C.env scope.names []) :=
  closure_eq fun p hp hk => by
    obtain ⟨c, _, _, e, _⟩ := st.cell p.1 (.inl ((hs.kinds p hp).2.2 hk))
    exact ⟨c, e⟩
theorem comp_locals {scope : Scope} (hs : compNames ρ scope) : ∀ x ∈ scope.names, x.2 = .local → scope.names.lookup x.1 = some .local := fun x hx e => by rw [(hs.kinds x hx).2.1, e]

theorem comp_act {T : Tabs} {c : Callee} {elt target iter : Expr} {ifs : List Expr} {scope : Scope} {pos : Pos} : stepE T c ev (.ListComp elt [⟨target, iter, ifs, 0⟩] scope pos) ρ =
    if (compOk scope && scope.names.all (fun (x, k) => k != .free || ρ.names.lookup x == some .cell)) = true then compAct T ev ρ elt target iter ifs scope else failM := rfl

theorem sm_ListComp (ok : G.Ok) (h : EvSim G n ev) (hC : C.Ok n) {c : Callee} {elt target iter : Expr} {ifs : List Expr} {scope : Scope} {pos : Pos} : Sm G C ρ m P (Rep G) (eval (.ListComp elt [⟨target, iter, ifs, 0⟩] scope pos) C.env) (stepE G.tb c ev (.ListComp elt [⟨target, iter, ifs, 0⟩] scope pos) ρ) := by
  rw [comp_act]
  refine Sm.cond fun hk => ?_
  rw [Bool.and_eq_true] at hk
  have hs : compNames ρ scope := hk
  intro σ φ mt im fr s Q E hp st hsp
  rw [arm_eval_ListComp]
  obtain ⟨hset, run⟩ := comp_run (RR := fun acc Lc => compPost (model G.prog G.w) C.A E none Q acc Lc) (E := E) (pos := pos) ok h hC st hs (elt := elt) (target := target) (iter := iter) (ifs := ifs) (fun q => by rw [q] at hsp; exact hsp)
    (fun l σ' q D Lc h' tk φ' mt' im' fr' mc x st' ap hn r => by
      rw [q] at hsp
      exact ⟨mc, hn, fun h'' hs'' => hsp φ' mt' im' fr' h'' tk (.ref D) x (st'.but ap hs'') r⟩)
    (fun σ' q acc Lc h' tk e mc hn k => by
      rw [q] at hsp
      refine ⟨mc, hn, fun h'' hs'' cenv _ => ?_⟩
      obtain ⟨φ', mt', im', fr', x, f⟩ := k h'' hs''
      exact fly_passOn (s := { s with heap := h'', toks := tk }) f fun h3 fr3 x3 f3 => hsp φ' mt' im' fr3 h3 tk e (x.trans x3) f3)
    (fun σ' q φ' mt' im' fr' h' tk e x f => by
      rw [q] at hsp
      exact hsp φ' mt' im' fr' h' tk e x f)
  exact wpAny_comprehension_free (use := none) rfl (folded_ok hset C.env) (comp_closure st hs) hs.kind (comp_locals hs) run

theorem evSim_step (ok : G.Ok) (h : EvSim G n ev) {c : Callee} (hc : CSim G n c) : EvSim G n ⟨stepE G.tb c ev, stepT ev⟩ where
  e := fun C ρ m e hC => sm_stepE ok h hC hc stableT (fun elt target iter ifs scope pos => sm_ListComp ok h hC) e
  t := fun C ρ m e hC => sm_test ok h hC stableT e
theorem evSim (ok : G.Ok) {c : Callee} (hc : CSim G n c) : ∀ d, EvSim G n (evAt G.tb c d)
  | 0 => ⟨fun _ _ _ _ _ => Sm.fail, fun _ _ _ _ _ => Sm.fail⟩
  | d + 1 => evSim_step ok (evSim ok hc d) hc
end rules
end Mine
end
section
namespace Mine
open PySem PySem.W PySem.Calls PyProof.Rows

structure FlyN (G : Gd) (C : Act) (σ : AHeap) (φ : Ids) (mt im fr : Ledger) (m : Str → Option Value) (e : Addr) (h : Heap) : Prop where
  ns : h.Ns C.env.locals m
  abv : G.hb.objs.size ≤ C.env.locals
  out : ∃ (B : Heap) (a0 : Value) (oe : Obj) (vs : Array Value), G.hb.StaysIn B ∧ (∀ q ∈ mt ++ im, B.get? q.1 = some q.2) ∧ (∀ q ∈ fr, IsL q.2 → B.get? q.1 = some q.2) ∧ B.StaysIn h ∧ B.get? e = none ∧ h.FunFrames B (C.fenv :: C.outer) ∧
    h.get? e = some oe ∧ oe.cls = lowerFault ∧ oe.data = .fields vs ∧ vs[1]? = some .none ∧ vs[0]? = some a0
  frs : ∀ q ∈ fr, h.get? q.1 = some q.2 ∧ G.hb.get? q.1 = none
  new : ∀ q ∈ mt ++ im, G.hb.get? q.1 = none
  own : ∀ q ∈ mt ++ (im ++ fr), q.1 ≠ C.env.locals
  nd : (mt.map (·.1)).Nodup
  sep : ∀ p ∈ mt, ∀ q ∈ im ++ fr, p.1 ≠ q.1
  sepf : ∀ p ∈ im, ∀ q ∈ fr, p.1 ≠ q.1
  imk : ∀ q ∈ im, NoFr q.2
  frd : ∀ q ∈ fr, (∃ es n, q.2.data = .dict es n) ∨ (∃ v, q.2.data = .cell v) ∨ IsL q.2
  hp : HeapRep G φ σ mt im

noncomputable def FlowRep (G : Gd) : VRel AFlow Flow := fun φ im fl f => match fl with
  | .next => f = .next
  | .ret a => ∃ v, f = .ret v ∧ Rep G φ im a v

section
variable (G : Gd) (C : Act)
noncomputable def SpS (φ : Ids) (im fr : Ledger) (Q : Flow → Shared → Prop) (E : Value → Shared → Prop) (s : Shared) : Res (AFlow × LEnv) → Prop
  | .ok (fl, ρ') σ' => ∀ φ' mt' im' fr' m' h' tk' f, ExtS C φ im fr φ' im' fr' → SS G C ρ' σ' φ' mt' im' fr' m' h' → FlowRep G φ' im' fl f → Q f { s with heap := h', toks := tk' }
  | .exn σ' => ∀ φ' mt' im' fr' m' h' tk' e, ExtS C φ im fr φ' im' fr' → (Fly G C σ' φ' mt' im' fr' m' e h' ∨ FlyN G C σ' φ' mt' im' fr' m' e h') → E (.ref e) { s with heap := h', toks := tk' }
  | .fail => False
noncomputable def XSim (n : Nat) (f : Stmt → LEnv → M (AFlow × LEnv)) : Prop := ∀ C ρ σ φ mt im fr m s Q E st, Act.Ok C n → PassesOwn (model G.prog G.w) C.A C.env E → SS G C ρ σ φ mt im fr m s.heap → SpS G C φ im fr Q E s (f st ρ σ) → wpAny (model G.prog G.w) C.A (exec st C.env) Q E s
noncomputable def XsSim (n : Nat) (f : List Stmt → LEnv → M (AFlow × LEnv)) : Prop := ∀ C ρ σ φ mt im fr m s Q E sts, Act.Ok C n → PassesOwn (model G.prog G.w) C.A C.env E → SS G C ρ σ φ mt im fr m s.heap → SpS G C φ im fr Q E s (f sts ρ σ) → wpAny (model G.prog G.w) C.A (execs sts C.env) Q E s
end

theorem SpS.step {G : Gd} {C : Act} {φ im fr φ' im' fr'} {Q : Flow → Shared → Prop} {E : Value → Shared → Prop} {s : Shared} {r : Res (AFlow × LEnv)} (h : SpS G C φ im fr Q E s r) (x : ExtS C φ im fr φ' im' fr') (h' : Heap) (tk : Nat) :
    SpS G C φ' im' fr' Q E { s with heap := h', toks := tk } r := by
  induction r using Res.casesOn with
  | ok a σ =>
    obtain ⟨fl, ρ'⟩ := a
    exact fun φ'' mt'' im'' fr'' m'' h'' tk'' b y st r => h φ'' mt'' im'' fr'' m'' h'' tk'' b (x.trans y) st r
  | exn σ => exact fun φ'' mt'' im'' fr'' m'' h'' tk'' e y st => h φ'' mt'' im'' fr'' m'' h'' tk'' e (x.trans y) st
  | fail => exact h

theorem swaps_none {e : Expr} (hn : notComp e = true) (o : Option Expr) (line : Nat) (env : Env) : swapsWith e o line env = pure false := by cases e <;> first | rfl | exact (no_ft hn).elim
section rules
variable {G : Gd} {C : Act} {ρ : LEnv} {σ : AHeap} {φ : Ids} {mt im fr : Ledger} {m : Str → Option Value} {n : Nat} {ev : Ev} {s : Shared} {Q : Flow → Shared → Prop} {E : Value → Shared → Prop}

theorem sm_then' {α β : Type} {P : Pre} {R : VRel α β} {t : Sem β} {ma : M α} {k : α → M (AFlow × LEnv)} {Q' : β → Shared → Prop} (ht : Sm G C ρ m P R t ma) (hp : P φ im) (st : SS G C ρ σ φ mt im fr m s.heap) (hs : SpS G C φ im fr Q E s ((ma >>= k) σ))
    (hQ : ∀ a σ' b φ' mt' im' fr' h' tk, Ext φ im fr φ' im' fr' → SS G C ρ σ' φ' mt' im' fr' m h' → R φ' im' a b → SpS G C φ' im' fr' Q E { s with heap := h', toks := tk } (k a σ') → Q' b { s with heap := h', toks := tk }) :
    wpAny (model G.prog G.w) C.A t Q' E s := by
  refine ht σ φ mt im fr s Q' E hp st ?_
  change SpS G C φ im fr Q E s ((ma σ).bind k) at hs
  induction e : ma σ using Res.casesOn with
  | ok a σ' =>
    rw [e] at hs
    exact fun φ' mt' im' fr' h' tk' b x st' r => hQ a σ' b φ' mt' im' fr' h' tk' x st' r (SpS.step hs x.toS h' tk')
  | exn σ' =>
    rw [e] at hs
    exact fun φ' mt' im' fr' h' tk' e x f => hs φ' mt' im' fr' m h' tk' e x.toS (.inl f)
  | fail => rw [e] at hs; exact hs

theorem sm_then {α β : Type} {R : VRel α β} {t : Sem β} {ma : M α} {k : α → M (AFlow × LEnv)} {Q' : β → Shared → Prop} (ht : Sm G C ρ m (fun _ _ => True) R t ma) (st : SS G C ρ σ φ mt im fr m s.heap) (hs : SpS G C φ im fr Q E s ((ma >>= k) σ))
    (hQ : ∀ a σ' b φ' mt' im' fr' h' tk, Ext φ im fr φ' im' fr' → SS G C ρ σ' φ' mt' im' fr' m h' → R φ' im' a b → SpS G C φ' im' fr' Q E { s with heap := h', toks := tk } (k a σ') → Q' b { s with heap := h', toks := tk }) :
    wpAny (model G.prog G.w) C.A t Q' E s := sm_then' ht trivial st hs hQ

theorem SpS.next {φ im fr} {ρ' : LEnv} {σ' : AHeap} {mt' : Ledger} {m' : Str → Option Value} {h' : Heap} {tk : Nat} (hs : SpS G C φ im fr Q E s (.ok (.next, ρ') σ')) {φ' im' fr'} (x : ExtS C φ im fr φ' im' fr') (st : SS G C ρ' σ' φ' mt' im' fr' m' h') : Q .next { s with heap := h', toks := tk } :=
  hs φ' mt' im' fr' m' h' tk .next x st rfl

theorem x_Expr (h : EvSim G n ev) (hC : C.Ok n) {f : Expr} {args : List Expr} {ks : List Keyword} {p pos : Pos} (st : SS G C ρ σ φ mt im fr m s.heap)
    (hs : SpS G C φ im fr Q E s ((ev.e (.Call f args ks p) ρ >>= fun _ => (pure (.next, ρ) : M (AFlow × LEnv))) σ)) : wpAny (model G.prog G.w) C.A (exec (.Expr (.Call f args ks p) pos) C.env) Q E s := by
  rw [exec_Expr C.env _ _ (by unfold interactive; rw [hC.kind]; rfl) rfl]
  refine wpAny_bind (wpAny_standAt (wpAny_bind ?_))
  exact sm_then (h.at_ hC _) st hs fun a σ' v φ' mt' im' fr' h' tk x st' r hs' => wpAny_dropValue (SpS.next (E := E) hs' (ExtS.refl ..) st')

theorem x_Return (h : EvSim G n ev) (hC : C.Ok n) {e : Expr} {pos : Pos} (st : SS G C ρ σ φ mt im fr m s.heap)
    (hs : SpS G C φ im fr Q E s ((ev.e e ρ >>= fun v => (pure (.ret v, ρ) : M (AFlow × LEnv))) σ)) : wpAny (model G.prog G.w) C.A (exec (.Return (some e) pos) C.env) Q E s :=
  wpAny_Return_some (sm_then (h.at_ hC _) st hs fun a σ' v φ' mt' im' fr' h' tk x st' r hs' => hs' φ' mt' im' fr' m h' tk _ (ExtS.refl ..) st' ⟨v, rfl, r⟩)

theorem x_AssignAttr (ok : G.Ok) (h : EvSim G n ev) (hC : C.Ok n) {o e : Expr} {x : Str} {p pos : Pos} (hn : notComp e = true) (st : SS G C ρ σ φ mt im fr m s.heap)
    (hs : SpS G C φ im fr Q E s ((do
      let v ← ev.e e ρ
      let ov ← ev.e o ρ
      setF G.tb.fieldOk ov x v
      return (.next, ρ) : M (AFlow × LEnv)) σ)) : wpAny (model G.prog G.w) C.A (exec (.Assign [.Attribute o x p] e pos) C.env) Q E s := by
  have hsw : swapsWith e (some (.Attribute o x p)) pos.line C.env = pure false := swaps_none hn _ _ _
  refine plainObj_wpAny_Assign_Attribute ?_ hsw
  refine sm_then (h.at_ hC _) st hs fun a σ₁ v φ₁ mt₁ im₁ fr₁ h₁ tk₁ x₁ st₁ r hs₁ => ?_
  refine sm_then (s := { s with heap := h₁, toks := tk₁ }) (h.at_ hC _) st₁ hs₁ fun b σ₂ ov φ₂ mt₂ im₂ fr₂ h₂ tk₂ x₂ st₂ r₂ hs₂ => ?_
  refine sm_then' (s := { s with heap := h₂, toks := tk₂ }) (sm_setF (ρ := ρ) (m := m) (P := fun φ im => Rep G φ im b ov ∧ Rep G φ im a v) (C := C) (x := x) ok (fun φ im q => q.1) fun φ im q => q.2) ⟨r₂, r.ext x₂⟩ st₂ hs₂ fun _ σ₃ _ φ₃ mt₃ im₃ fr₃ h₃ tk₃ x₃ st₃ _ hs₃ => ?_
  exact SpS.next (E := E) (s := { s with heap := h₂, toks := tk₂ }) hs₃ (ExtS.refl ..) st₃

theorem x_AssignItem (h : EvSim G n ev) (hC : C.Ok n) {o i e : Expr} {p pos : Pos} (hn : notComp e = true) (st : SS G C ρ σ φ mt im fr m s.heap)
    (hs : SpS G C φ im fr Q E s ((do
      let v ← ev.e e ρ
      let ov ← ev.e o ρ
      let iv ← ev.e i ρ
      setItemM ov iv v
      return (.next, ρ) : M (AFlow × LEnv)) σ)) : wpAny (model G.prog G.w) C.A (exec (.Assign [.Subscript o i p] e pos) C.env) Q E s := by
  have hsw : swapsWith e (some (.Subscript o i p)) pos.line C.env = pure false := swaps_none hn _ _ _
  refine wpAny_Assign_Subscript ?_ hsw
  refine sm_then (h.at_ hC _) st hs fun a σ₁ v φ₁ mt₁ im₁ fr₁ h₁ tk₁ x₁ st₁ r hs₁ => ?_
  refine sm_then (s := { s with heap := h₁, toks := tk₁ }) (h.at_ hC _) st₁ hs₁ fun b σ₂ ov φ₂ mt₂ im₂ fr₂ h₂ tk₂ x₂ st₂ r₂ hs₂ => ?_
  refine sm_then (s := { s with heap := h₂, toks := tk₂ }) (h.at_ hC _) st₂ hs₂ fun c σ₃ iv φ₃ mt₃ im₃ fr₃ h₃ tk₃ x₃ st₃ r₃ hs₃ => ?_
  refine sm_then' (s := { s with heap := h₃, toks := tk₃ }) (sm_setItem (ρ := ρ) (m := m) (P := fun φ im => Rep G φ im b ov ∧ Rep G φ im c iv ∧ Rep G φ im a v) (C := C) (fun φ im q => q.1) (fun φ im q => q.2.1) fun φ im q => q.2.2) ⟨r₂.ext x₃, r₃, r.ext (x₂.trans x₃)⟩ st₃ hs₃ fun _ σ₄ _ φ₄ mt₄ im₄ fr₄ h₄ tk₄ x₄ st₄ _ hs₄ => ?_
  exact SpS.next (E := E) (s := { s with heap := h₃, toks := tk₃ }) hs₄ (ExtS.refl ..) st₄

theorem liftO_out {α β : Type} {o : Option α} {k : α → M β} {σ : AHeap} {K : Res β → Prop} (hf : K .fail → False) (hs : K ((liftO o >>= k) σ)) : ∃ a, o = some a ∧ K (k a σ) := by
  induction o using Option.casesOn with
  | none => exact (hf hs).elim
  | some a => exact ⟨a, rfl, hs⟩

theorem store_local {Q : Unit → Shared → Prop} (st : SS G C ρ σ φ mt im fr m s.heap) (hC : C.Ok n) {x : Str} {av : AV} {v : Value} {ρ' : LEnv} (e : ρ.set x av = some ρ') (r : Rep G φ im av v) (hl : C.env.kindOf x = some .local)
    (hQ : ∀ h' m' tk, SS G C ρ' σ φ mt im fr m' h' → Heap.SameBut C.env.locals s.heap h' → Q () { s with heap := h', toks := tk }) : wpAny (model G.prog G.w) C.A (storeName C.env x v) Q E s := by
  rcases set_of e with ⟨hk, e'⟩ | ⟨hk, e'⟩
  · clear e
    subst e'
    have hkind := st.kinds x _ hk
    refine wpAny_storeName_local hkind st.F.ns (fun h' hn hs => ?_) (block_plain hC)
    refine hQ h' (fun y => if y = x then some v else m y) (s.toks + 1) ?_ hs
    refine { st with F := st.F.set hn hs, N := st.N.set hs, kinds := st.kinds, loc := ?_, cell := st.cell }
    exact upd_read (R := Rep G φ im) (K := fun y => ρ.names.lookup y = some .local) st.loc r
  · have hkind := st.kinds x _ hk
    rw [hl] at hkind
    cases hkind

theorem swaps_or {T : Tabs} {c : Callee} {ev : Ev} {e : Expr} {x : Str} {p : Pos} {line : Nat} {env : Env} : (∃ elt target iter ifs scope cp, e = .ListComp elt [⟨target, iter, ifs, 0⟩] scope cp) ∨
    swapsWith e (some (.Name x p)) line env = pure false ∨ ∀ ρ σ, stepE T c ev e ρ σ = .fail := by
  induction e using PySem.Expr.casesOn with
  | ListComp elt gens scope cp =>
    induction gens using List.casesOn with
    | nil => exact .inr (.inr fun ρ σ => rfl)
    | cons g r =>
      obtain ⟨t, i, ifs, k⟩ := g
      induction k using Int.casesOn with
      | negSucc k => exact .inr (.inr fun ρ σ => by cases r <;> rfl)
      | ofNat k =>
        induction k using Nat.casesOn with
        | succ k => exact .inr (.inr fun ρ σ => by cases r <;> rfl)
        | zero =>
          induction r using List.casesOn with
          | cons _ _ => exact .inr (.inr fun ρ σ => rfl)
          | nil => exact .inl ⟨_, _, _, _, _, _, rfl⟩
  | SetComp elt gens scope cp => exact .inr (.inr fun ρ σ => rfl)
  | DictComp k v gens scope cp => exact .inr (.inr fun ρ σ => rfl)
  | _ => exact .inr (.inl rfl)
theorem x_AssignName (ok : G.Ok) (h : EvSim G n ev) (hC : C.Ok n) {c : Callee} {x : Str} {e : Expr} {p pos : Pos} (hE : PassesOwn (model G.prog G.w) C.A C.env E) (hstep : ∀ C ρ m e, Act.Ok C n → Sm G C ρ m (fun _ _ => True) (Rep G) (eval e C.env) (stepE G.tb c ev e ρ)) (st : SS G C ρ σ φ mt im fr m s.heap)
    (hs : SpS G C φ im fr Q E s ((do
      let v ← stepE G.tb c ev e ρ
      let ρ' ← liftO (ρ.set x v)
      return (.next, ρ') : M (AFlow × LEnv)) σ)) : wpAny (model G.prog G.w) C.A (exec (.Assign [.Name x p] e pos) C.env) Q E s := by
  have plain : swapsWith e (some (.Name x p)) pos.line C.env = pure false → wpAny (model G.prog G.w) C.A (exec (.Assign [.Name x p] e pos) C.env) Q E s := fun hsw => by
    refine wpAny_Assign_Name ?_ hsw
    refine sm_then (hstep C ρ m e hC) st hs fun a σ₁ v φ₁ mt₁ im₁ fr₁ h₁ tk₁ x₁ st₁ r hs₁ => ?_
    obtain ⟨ρ', eb, hs₁⟩ := liftO_out (K := SpS G C φ₁ im₁ fr₁ Q E { s with heap := h₁, toks := tk₁ }) (fun q => q) hs₁
    refine store_one (s := { s with heap := h₁, toks := tk₁ }) st₁ hC eb r fun h₂ m₂ fr₂ tk₂ st₂ f₂ _ => ?_
    exact SpS.next (E := E) (s := { s with heap := h₁, toks := tk₁ }) hs₁ ⟨List.prefix_rfl, fun _ h => h, f₂⟩ st₂
  rcases swaps_or (T := G.tb) (c := c) (ev := ev) (e := e) (x := x) (p := p) (line := pos.line) (env := C.env) with ⟨elt, target, iter, ifs, scope, cp, he⟩ | hsw
  · subst he
    have hsw : swapsWith (.ListComp elt [⟨target, iter, ifs, 0⟩] scope cp) (some (.Name x p)) pos.line C.env =
        pure (C.env.blockKind == .function && C.env.kindOf x == some .local && p.line == cp.line && !(scope.names.any fun (n, k) => n == x && (k == .local || k == .cell))) := rfl
    induction hb : (C.env.blockKind == .function && C.env.kindOf x == some .local && p.line == cp.line && !(scope.names.any fun (n, k) => n == x && (k == .local || k == .cell))) using Bool.casesOn with
    | false => exact plain (by rw [hsw, hb])
    | true =>
      have hl : C.env.kindOf x = some .local := by
        simp only [Bool.and_eq_true, beq_iff_eq] at hb
        exact hb.1.1.2
      rw [exec_Assign_Name_used _ _ _ _ (by rw [hsw, hb]), arm_evalThenUse_ListComp]
      rw [comp_act] at hs
      by_cases hk : (compOk scope && scope.names.all (fun (x, k) => k != .free || ρ.names.lookup x == some .cell)) = true
      · rw [if_pos hk] at hs
        rw [Bool.and_eq_true] at hk
        have hsn : compNames ρ scope := hk
        have hstep' : (compAct G.tb ev ρ elt target iter ifs scope >>= fun v => liftO (ρ.set x v) >>= fun ρ' => (pure (.next, ρ') : M (AFlow × LEnv))) σ = (compAct G.tb ev ρ elt target iter ifs scope σ).bind fun v => liftO (ρ.set x v) >>= fun ρ' => (pure (.next, ρ') : M (AFlow × LEnv)) := rfl
        change SpS G C φ im fr Q E s ((compAct G.tb ev ρ elt target iter ifs scope σ).bind fun v => liftO (ρ.set x v) >>= fun ρ' => (pure (.next, ρ') : M (AFlow × LEnv))) at hs
        refine wpAny_bind (wpAny_standAt (wpAny_bind (wpAny_bind ?_)))
        obtain ⟨hset, run⟩ := comp_run (RR := fun acc Lc => compPost (model G.prog G.w) C.A E (some (assign (.Name x p) C.env)) (fun _ s' => wpAny (model G.prog G.w) C.A (pure ()) (fun _ s'' => wpAny (model G.prog G.w) C.A (pure .next) Q E s'') E s') acc Lc) (E := E) (pos := cp) ok h hC st hsn (elt := elt) (target := target) (iter := iter) (ifs := ifs) (fun q => by rw [q] at hs; exact hs)
          (fun l σ' q D Lc h' tk φ' mt' im' fr' mc y st' ap hn r => by
            rw [q] at hs
            obtain ⟨ρ', eb, hs⟩ := liftO_out (K := SpS G C φ im fr Q E s) (fun q => q) hs
            refine wpAny_assign_Name (store_local (s := { s with heap := h', toks := tk }) st' hC eb r hl fun h₂ m₂ tk₂ st₂ hs₂ => ?_)
            refine ⟨mc, hn.sameBut hs₂ (Ne.symm ap.loc), fun h₃ hs₃ => wpAny_pure (wpAny_pure ?_)⟩
            exact SpS.next (E := E) hs y.toS (st₂.but ap hs₃))
          (fun σ' q acc Lc h' tk e mc hn k => by
            rw [q] at hs
            refine ⟨mc, hn, fun h'' hs'' cenv _ => ?_⟩
            obtain ⟨φ', mt', im', fr', y, f⟩ := k h'' hs''
            exact fly_passOn (s := { s with heap := h'', toks := tk }) f fun h3 fr3 x3 f3 => hs φ' mt' im' fr3 m h3 tk e (y.trans x3).toS (.inl f3))
          (fun σ' q φ' mt' im' fr' h' tk e y f => by
            rw [q] at hs
            exact hs φ' mt' im' fr' m h' tk e y.toS (.inl f))
        refine wpAny_mono (wpAny_comprehension_free (use := some (assign (.Name x p) C.env)) rfl (folded_ok hset C.env) (comp_closure st hsn) hsn.kind (comp_locals hsn) run) (fun _ s' q => ?_) fun _ _ y => y
        exact wpAny_mono q (fun _ _ y => y) fun _ _ y => y
      · rw [if_neg hk] at hs; exact hs.elim
  · rcases hsw with hsw | hsw
    · exact plain hsw
    · change SpS G C φ im fr Q E s ((stepE G.tb c ev e ρ σ).bind _) at hs
      rw [hsw] at hs
      exact hs.elim
end rules
end Mine
end
section
namespace Mine
open PySem PySem.W PySem.Calls PyProof.Rows

theorem filterMap_congr' {α β : Type} {f g : α → Option β} : ∀ {l : List α}, (∀ a ∈ l, f a = g a) → l.filterMap f = l.filterMap g
  | [], _ => rfl
  | a :: l, h => by rw [List.filterMap_cons, List.filterMap_cons, h a (.head _), filterMap_congr' fun b hb => h b (.tail _ hb)]

theorem swapped_eq {ns : List (Str × NameKind)} {env : Env} (hk : ∀ x k, ns.lookup x = some k → env.kindOf x = some (if k = .free then .cell else k)) (hf : env.scope.kind = .function) {ts : List Expr} {k : Nat} {p : Pos} {e : Expr} (ht : tsOk ns ts = true) {r : Option (List Str)}
    (h : swapNames (fun id => ns.lookup id == some .local) ts e = some r) : swappedStores [.Tuple ts k p] e env = pure r := by
  have fm : ∀ line, ts.filterMap (nameAt (fun id => env.kindOf id == some .local) line) = ts.filterMap (nameAt (fun id => ns.lookup id == some .local) line) := fun line => by
    refine filterMap_congr' fun t hm => ?_
    have := (List.all_eq_true.mp ht) t hm
    induction t using PySem.Expr.casesOn with
    | Name x q =>
      simp only [Bool.or_eq_true, beq_iff_eq] at this
      unfold nameAt
      rcases this with h | h
      · have := hk x _ h
        simp only [this, h]
        rfl
      · have := hk x _ h
        simp only [this, h]
        rfl
    | _ => exact (no_ft this).elim
  induction e using PySem.Expr.casesOn with
  | Tuple vs kk q =>
    have hb : env.blockKind = .function := by unfold Env.blockKind; rw [hf]; rfl
    have e1 : swappedStores [.Tuple ts k p] (.Tuple vs kk q) env =
      (if (!(ts.length == 2 || ts.length == 3) || vs.length != ts.length || env.blockKind != .function) = true then pure none
      else if vs.any isStar = true then pure none
      else if ((swapLine (fun id => env.kindOf id == some .local) ts).length != ts.length || (swapLine (fun id => env.kindOf id == some .local) ts).eraseDups.length != (swapLine (fun id => env.kindOf id == some .local) ts).length) = true then pure none
      else if vs.all (foldedForSure 8) = true then pure none
      else if vs.all (constantsAlone 8) = true then unsupported "assign.tuple-of-constant-expressions:order-of-the-stores"
      else pure (some (swapLine (fun id => env.kindOf id == some .local) ts))) := by
        unfold swappedStores
        rfl
    rw [e1, show swapLine (fun id => env.kindOf id == some .local) ts = swapLine (fun id => ns.lookup id == some .local) ts from fm _, hb, show (ScopeKind.function != ScopeKind.function) = false from rfl, Bool.or_false]
    have h : swapPick (!(ts.length == 2 || ts.length == 3) || vs.length != ts.length) (vs.any isStar) ((swapLine _ ts).length != ts.length || (swapLine _ ts).eraseDups.length != (swapLine _ ts).length) (vs.all (foldedForSure 8)) (vs.all (constantsAlone 8)) (swapLine _ ts) = some r := h
    clear fm e1 hb
    generalize swapLine _ ts = names at h ⊢
    generalize (!(ts.length == 2 || ts.length == 3) || vs.length != ts.length) = a at h ⊢
    generalize vs.any isStar = b at h ⊢
    generalize (names.length != ts.length || names.eraseDups.length != names.length) = c at h ⊢
    generalize vs.all (foldedForSure 8) = d at h ⊢
    generalize vs.all (constantsAlone 8) = x at h ⊢
    induction a using Bool.casesOn with
    | true => exact congrArg pure (Option.some.inj h)
    | false => induction b using Bool.casesOn with
      | true => exact congrArg pure (Option.some.inj h)
      | false => induction c using Bool.casesOn with
        | true => exact congrArg pure (Option.some.inj h)
        | false => induction d using Bool.casesOn with
          | true => exact congrArg pure (Option.some.inj h)
          | false => induction x using Bool.casesOn with
            | true => exact (no_ns h).elim
            | false => exact congrArg pure (Option.some.inj h)
  | _ => exact congrArg pure (Option.some.inj h)

section rules
variable {G : Gd} {C : Act} {ρ : LEnv} {σ : AHeap} {φ : Ids} {mt im fr : Ledger} {m : Str → Option Value} {n : Nat} {ev : Ev} {s : Shared} {Q : Flow → Shared → Prop} {E : Value → Shared → Prop}

theorem store_args (hC : C.Ok n) {ρ' : LEnv} {xs : List Str} {avs : List AV} (e : BindsA ρ xs avs ρ') : ∀ (vs : List Value) (s : Shared) (m : Str → Option Value) (fr : Ledger) (Q : Unit → Shared → Prop), SS G C ρ σ φ mt im fr m s.heap → RepL G φ im avs vs →
    (∀ h' m' fr' tk, SS G C ρ' σ φ mt im fr' m' h' → FrS C fr fr' → Q () { s with heap := h', toks := tk }) →
    wpAny (model G.prog G.w) C.A (assignInOrder (xs.map fun x => bindName C.env x) vs) Q E s := by
  induction e with
  | nil =>
    intro vs s m fr Q st r hQ
    induction vs using List.casesOn with
    | nil => exact wpAny_pure (hQ s.heap m fr s.toks st (FrS.refl C fr))
    | cons _ _ => unfold RepL at r; exact r.elim
  | cons e1 _ ih =>
    intro vs s m fr Q st r hQ
    induction vs using List.casesOn with
    | nil => unfold RepL at r; exact r.elim
    | cons v vs =>
      unfold RepL at r
      refine assignInOrder_cons (wpAny_bindName (store_one st hC e1 r.1 fun h₁ m₁ fr₁ tk st₁ f₁ l₁ => ?_))
      exact ih vs { s with heap := h₁, toks := tk } m₁ fr₁ Q st₁ r.2 fun h' m' fr' tk' st' f' => hQ h' m' fr' tk' st' (f₁.trans f')

theorem BindsA.length {xs : List Str} {avs : List AV} {ρ ρ' : LEnv} (h : BindsA ρ xs avs ρ') : xs.length = avs.length := by
  induction h with
  | nil => rfl
  | cons _ _ ih => rw [List.length_cons, List.length_cons, ih]
theorem bindArgs_length {xs : List Str} {avs : List AV} {ρ ρ' : LEnv} (h : bindArgs xs avs ρ = some ρ') : xs.length = avs.length := (bindsA_of h).length

theorem RepL.reverse {φ : Ids} {im : Ledger} : ∀ {l : List AV} {vs : List Value}, RepL G φ im l vs → RepL G φ im l.reverse vs.reverse
  | [], [], _ => RepL.nil
  | a :: l, v :: vs, h => by
    unfold RepL at h
    rw [List.reverse_cons, List.reverse_cons]
    exact RepL.append (RepL.reverse h.2) (RepL.cons h.1 RepL.nil)
  | [], _ :: _, h => by unfold RepL at h; exact h.elim
  | _ :: _, [], h => by unfold RepL at h; exact h.elim

theorem x_AssignTuple (h : EvSim G n ev) (hC : C.Ok n) {ts : List Expr} {k : Nat} {e : Expr} {p pos : Pos} (st : SS G C ρ σ φ mt im fr m s.heap)
    (hs : SpS G C φ im fr Q E s ((if (notComp e && tsOk ρ.names ts) = true then
      match swapNames (fun id => ρ.names.lookup id == some .local) ts e with
      | Option.none => failM
      | some Option.none => do
        let v ← ev.e e ρ
        let ρ' ← liftO (bindTarget ρ (.Tuple ts k p) v)
        return (.next, ρ')
      | some (some names) => do
        match ← ev.e e ρ with
        | .tup avs => do
          let ρ' ← liftO (bindArgs names.reverse avs.reverse ρ)
          return (.next, ρ')
        | _ => failM
    else failM : M (AFlow × LEnv)) σ)) : wpAny (model G.prog G.w) C.A (exec (.Assign [.Tuple ts k p] e pos) C.env) Q E s := by
  by_cases hc : (notComp e && tsOk ρ.names ts) = true
  · rw [if_pos hc] at hs
    rw [Bool.and_eq_true] at hc
    have hsw : swapsWithSole [.Tuple ts k p] e pos.line C.env = pure false := by
      show swapsWith e (some (.Tuple ts k p)) pos.line C.env = pure false
      exact swaps_none hc.1 _ _ _
    induction hn : swapNames (fun id => ρ.names.lookup id == some .local) ts e using Option.casesOn with
    | none => rw [hn] at hs; exact hs.elim
    | some r =>
      have hst := swapped_eq (k := k) (p := p) st.kinds hC.kind hc.2 hn
      induction r using Option.casesOn with
      | none =>
        rw [hn] at hs
        refine wpAny_Assign_stores (sm_then (h.at_ hC _) st hs fun a σ₁ v φ₁ mt₁ im₁ fr₁ h₁ tk₁ x₁ st₁ r hs₁ => ?_) hsw hst
        obtain ⟨ρ', eb, hs₁⟩ := liftO_out (K := SpS G C φ₁ im₁ fr₁ Q E { s with heap := h₁, toks := tk₁ }) (fun q => q) hs₁
        show wpAny _ _ (assign (.Tuple ts k p) C.env v) _ _ _
        refine assign_item (s := { s with heap := h₁, toks := tk₁ }) hC st₁ r eb fun h₂ m₂ fr₂ tk₂ st₂ f₂ _ => ?_
        exact SpS.next (E := E) (s := { s with heap := h₁, toks := tk₁ }) hs₁ ⟨List.prefix_rfl, fun _ h => h, f₂⟩ st₂
      | some names =>
        rw [hn] at hs
        rw [exec_Assign_arm]
        refine wpAny_bind (wpAny_standAt ?_)
        rw [hsw]
        refine wpAny_bind (wpAny_pure ?_)
        rw [if_neg (by decide)]
        refine wpAny_bind (sm_then (h.at_ hC _) st hs fun a σ₁ v φ₁ mt₁ im₁ fr₁ h₁ tk₁ x₁ st₁ r hs₁ => ?_)
        rw [hst]
        refine wpAny_bind (wpAny_pure ?_)
        induction a using AV.casesOn with
        | tup avs =>
          obtain ⟨ρ', eb, hs₁⟩ := liftO_out (K := SpS G C φ₁ im₁ fr₁ Q E { s with heap := h₁, toks := tk₁ }) (fun q => q) hs₁
          unfold Rep at r
          obtain ⟨b, us, nn, rfl, hm, rl⟩ := r
          have hlen : names.length = us.toArray.size := by
            have := bindArgs_length eb
            rw [List.length_reverse, List.length_reverse] at this
            rw [List.size_toArray, rl.length, this]
          unfold assignStores
          dsimp only
          rw [hlen]
          refine wpAny_bind (wpAny_rule (wpAny_bind (wpAny_unpackItems_tuple hC.hd ⟨_, st₁.imIn hm, rfl, _, rfl⟩ fun h₂ he₂ => wpAny_bind ?_)))
          have k2 : ∀ b o, h₁.get? b = some o → h₂.get? b = some o := fun b o g => he₂ b o (Nat.ne_of_lt (Heap.lt_size g)) g
          refine store_args hC (bindsA_of eb) us.reverse { s with heap := h₂, toks := tk₁ } m fr₁ _ (st₁.keeps k2) rl.reverse fun h₃ m₃ fr₃ tk₃ st₃ f₃ => wpAny_pure ?_
          exact SpS.next (E := E) (s := { s with heap := h₁, toks := tk₁ }) hs₁ ⟨List.prefix_rfl, fun _ h => h, f₃⟩ st₃
        | _ => exact hs₁.elim
  · rw [if_neg hc] at hs; exact hs.elim
end rules
end Mine
end
section
namespace Mine
open PySem PySem.W PySem.Calls PyProof.Rows

section rules
variable {G : Gd} {C : Act} {ρ : LEnv} {σ : AHeap} {φ : Ids} {mt im fr : Ledger} {m : Str → Option Value} {n : Nat} {ev : Ev} {s : Shared} {Q : Flow → Shared → Prop} {E : Value → Shared → Prop}
  {run : List Stmt → LEnv → M (AFlow × LEnv)}

theorem xs_block {f : Stmt → LEnv → M (AFlow × LEnv)} (hx : XSim G n f) : XsSim G n (runBlock f) := by
  intro C ρ σ φ mt im fr m s Q E sts hC hE st hs
  induction sts generalizing ρ σ φ mt im fr m s with
  | nil => exact wpAny_execs_nil (hs φ mt im fr m s.heap s.toks .next (ExtS.refl ..) st rfl)
  | cons x r ih =>
    refine wpAny_execs_cons (hx C ρ σ φ mt im fr m s _ E x hC hE st ?_)
    change SpS G C φ im fr Q E s ((f x ρ σ).bind _) at hs
    induction e : f x ρ σ using Res.casesOn with
    | fail => rw [e] at hs; exact hs
    | exn σ₁ => rw [e] at hs; exact hs
    | ok a σ₁ =>
      rw [e] at hs
      obtain ⟨fl, ρ₁⟩ := a
      intro φ₁ mt₁ im₁ fr₁ m₁ h₁ tk₁ fw x₁ st₁ r₁
      induction fl using AFlow.casesOn with
      | next =>
        cases r₁
        exact ih _ _ _ _ _ _ _ { s with heap := h₁, toks := tk₁ } st₁ (SpS.step hs x₁ h₁ tk₁)
      | ret a =>
        obtain ⟨v, rfl, rv⟩ := r₁
        exact hs φ₁ mt₁ im₁ fr₁ m₁ h₁ tk₁ _ x₁ st₁ ⟨v, rfl, rv⟩

theorem x_If (h : EvSim G n ev) (hr : XsSim G n run) (hC : C.Ok n) (hE : PassesOwn (model G.prog G.w) C.A C.env E) {t : Expr} {b o : List Stmt} {pos : Pos} (st : SS G C ρ σ φ mt im fr m s.heap)
    (hs : SpS G C φ im fr Q E s ((do if ← ev.t t ρ then run b ρ else run o ρ : M (AFlow × LEnv)) σ)) : wpAny (model G.prog G.w) C.A (exec (.If t b o pos) C.env) Q E s := by
  refine wpAny_If (sm_then (h.test hC t) st hs fun c σ₁ c' φ₁ mt₁ im₁ fr₁ h₁ tk₁ x₁ st₁ r hs₁ => ?_)
  cases r
  induction c using Bool.casesOn with
  | true => exact hr C ρ σ₁ φ₁ mt₁ im₁ fr₁ m { s with heap := h₁, toks := tk₁ } Q E b hC hE st₁ hs₁
  | false => exact hr C ρ σ₁ φ₁ mt₁ im₁ fr₁ m { s with heap := h₁, toks := tk₁ } Q E o hC hE st₁ hs₁

inductive WhileInv (G : Gd) (C : Act) (Q : Flow → Shared → Prop) (E : Value → Shared → Prop) (loop : Nat → LEnv → M (AFlow × LEnv)) (k : Nat) (s' : Shared) : Prop
  | mk (ρ : LEnv) (σ : AHeap) (φ : Ids) (mt im fr : Ledger) (m : Str → Option Value) (st : SS G C ρ σ φ mt im fr m s'.heap) (hs : SpS G C φ im fr Q E s' (loop k ρ σ)) : WhileInv G C Q E loop k s'
theorem x_While (h : EvSim G n ev) (hr : XsSim G n run) (hC : C.Ok n) (hE : PassesOwn (model G.prog G.w) C.A C.env E) {t : Expr} {b : List Stmt} {pos : Pos} {fuel : Nat} (st : SS G C ρ σ φ mt im fr m s.heap)
    (hs : SpS G C φ im fr Q E s (whileLoop (ev.t t) run b fuel ρ σ)) : wpAny (model G.prog G.w) C.A (exec (.While t b [] pos) C.env) Q E s := by
  refine wpAny_While (codeAny_whileLoop (WhileInv G C Q E (whileLoop (ev.t t) run b)) ?_ fuel ⟨ρ, σ, φ, mt, im, fr, m, st, hs⟩)
  rintro k s' ⟨ρ, σ, φ, mt, im, fr, m, st, hs⟩
  refine wpAny_passesOwn hE ?_
  induction k using Nat.casesOn with
  | zero => exact hs.elim
  | succ k =>
    refine sm_then (h.test hC t) st hs fun c σ₁ c' φ₁ mt₁ im₁ fr₁ h₁ tk₁ x₁ st₁ r hs₁ => ?_
    cases r
    induction c using Bool.casesOn with
    | false => exact wpAny_execs_nil (SpS.next (E := E) (s := { s' with heap := h₁, toks := tk₁ }) hs₁ (ExtS.refl ..) st₁)
    | true =>
      refine wpAny_passesOwn hE (hr C ρ σ₁ φ₁ mt₁ im₁ fr₁ m { s' with heap := h₁, toks := tk₁ } _ E b hC hE st₁ ?_)
      change SpS G C φ₁ im₁ fr₁ Q E { s' with heap := h₁, toks := tk₁ } ((run b ρ σ₁).bind _) at hs₁
      induction e : run b ρ σ₁ using Res.casesOn with
      | fail => rw [e] at hs₁; exact hs₁
      | exn σ₂ => rw [e] at hs₁; exact hs₁
      | ok a σ₂ =>
        rw [e] at hs₁
        obtain ⟨fl, ρ₂⟩ := a
        intro φ₂ mt₂ im₂ fr₂ m₂ h₂ tk₂ fw x₂ st₂ r₂
        induction fl using AFlow.casesOn with
        | next =>
          cases r₂
          exact ⟨k, Nat.lt_succ_self k, ρ₂, σ₂, φ₂, mt₂, im₂, fr₂, m₂, st₂, SpS.step hs₁ x₂ h₂ tk₂⟩
        | ret a =>
          obtain ⟨v, rfl, rv⟩ := r₂
          exact hs₁ φ₂ mt₂ im₂ fr₂ m₂ h₂ tk₂ _ x₂ st₂ ⟨v, rfl, rv⟩

inductive ForInv (G : Gd) (C : Act) (im : Ledger) (Q : Flow → Shared → Prop) (E : Value → Shared → Prop) (src : Src) (it : Value) (its : List Addr) (loop : Nat → Nat → LEnv → M (AFlow × LEnv)) (f : Nat) (s' : Shared) : Prop
  | mk (k : Nat) (ρ : LEnv) (σ : AHeap) (φ' : Ids) (mt im' fr' : Ledger) (m : Str → Option Value) (st : SS G C ρ σ φ' mt im' fr' m s'.heap) (ir : ItRep G src k it its φ' im') (hin : ∀ p ∈ im, p ∈ im') (hs : SpS G C φ' im fr' Q E s' (loop f k ρ σ)) : ForInv G C im Q E src it its loop f s'
theorem x_For (ok : G.Ok) (h : EvSim G n ev) (hr : XsSim G n run) (hC : C.Ok n) (hE : PassesOwn (model G.prog G.w) C.A C.env E) {target iter : Expr} {b : List Stmt} {pos : Pos} (st : SS G C ρ σ φ mt im fr m s.heap)
    (hs : SpS G C φ im fr Q E s ((do
      let src ← iterSrc G.tb ev.e ρ iter
      if srcFor target src then forLoop run target b src loopFuel 0 ρ else failM : M (AFlow × LEnv)) σ)) : wpAny (model G.prog G.w) C.A (exec (.For target iter b [] pos) C.env) Q E s := by
  change SpS G C φ im fr Q E s ((iterSrc G.tb ev.e ρ iter σ).bind _) at hs
  have key : notSet iter = true ∧ wpAny (model G.prog G.w) C.A (eval iter C.env) (fun x s₁ => wpAny (model G.prog G.w) C.A (pyIter x) (fun it s₂ =>
      codeAny (model G.prog G.w) C.A (.forLoop target it b [] C.env) (fun r s' => match r with | .ok f => Q f s' | .error e => cameBackBy (model G.prog G.w) C.A C.env E e s') s₂) E s₁) E s := by
    refine src_ok ok h hC st (fun q => by rw [q] at hs; exact hs) ?_ (fun σ' q φ' mt' im' fr' h' tk e' x f => by rw [q] at hs; exact hs φ' mt' im' fr' m h' tk e' x.toS (.inl f))
    intro src σ₁ q φ₁ mt₁ im₁ fr₁ h₁ tk₁ it its x₁ hits st₁ ir
    rw [q] at hs
    have hs₁ : SpS G C φ im fr Q E s ((if srcFor target src = true then forLoop run target b src loopFuel 0 ρ else failM : M (AFlow × LEnv)) σ₁) := hs
    by_cases hsrc : srcFor target src = true
    · rw [if_pos hsrc] at hs₁
      have hs₂ : SpS G C φ₁ im fr₁ Q E { s with heap := h₁, toks := tk₁ } (forLoop run target b src loopFuel 0 ρ σ₁) := SpS.step hs₁ ⟨x₁.ids, fun _ h => h, fun p hp _ => x₁.fr p hp⟩ h₁ tk₁
      refine codeAny_forLoop_any (ForInv G C im Q E src it its (forLoop run target b src)) ?_ loopFuel
        ⟨0, ρ, σ₁, φ₁, mt₁, im₁, fr₁, m, st₁, ir, x₁.im, hs₂⟩
      rintro f s' ⟨k, ρ, σ, φ, mt, im', fr, m, st, ir, hin, hs⟩
      refine wpAny_passesOwn hE ?_
      induction f using Nat.casesOn with
      | zero => exact hs.elim
      | succ f =>
        have hstep : forLoop run target b src (f + 1) k ρ σ = (srcNext src k σ).bind fun r => match r with
          | none => pure (.next, ρ)
          | some v => (liftO (bindTarget ρ target v) >>= fun ρ' => run b ρ' >>= fun x => match x with | (.next, ρ'') => forLoop run target b src f (k + 1) ρ'' | x => pure x) := rfl
        rw [hstep] at hs
        have T := @turn_ok G C ρ σ φ mt im' fr m n E s' target src hC st k it its ir hsrc (fun r => r = srcNext src k σ ∧ r ≠ .fail) (fun q => q.2 rfl) ⟨rfl, fun e => by rw [e] at hs; exact hs⟩
          (fun s₁ => wpAny (model G.prog G.w) C.A (execs [] C.env) (fun f s₃ => Q f s₃) (notedBy (model G.prog G.w) C.A C.env (cameBackBy (model G.prog G.w) C.A C.env E)) s₁)
          (fun _ s₂ => wpAny (model G.prog G.w) C.A (execs b C.env) (fun fl s₃ => match fl with
            | .next | .cont => ∃ m, m < f + 1 ∧ ForInv G C im Q E src it its (forLoop run target b src) m s₃
            | .brk => Q .next s₃
            | .ret v => Q (.ret v) s₃) E s₂) ?hn ?hsm
        case hn =>
          rintro ⟨q, _⟩ h' im'' tk off st'
          rw [← q] at hs
          refine wpAny_execs_nil (hs φ mt im'' fr m h' tk .next ⟨List.prefix_rfl, fun p hp => off p (hin p hp) (hits p hp), FrS.refl C fr⟩ st' rfl)
        case hsm =>
          rintro av ⟨q, _⟩
          rw [← q] at hs
          have hs' : SpS G C φ im fr Q E s' ((liftO (bindTarget ρ target av) >>= fun ρ' => run b ρ' >>= fun x => match x with | (.next, ρ'') => forLoop run target b src f (k + 1) ρ'' | x => pure x) σ) := hs
          obtain ⟨ρ', eb, hs'⟩ := liftO_out (K := SpS G C φ im fr Q E s') (fun q => q) hs'
          refine ⟨ρ', eb, fun h' m' im'' fr' tk off st' ir' hf _ => ?_⟩
          have hin' : ∀ p ∈ im, p ∈ im'' := fun p hp => off p (hin p hp) (hits p hp)
          have hs'' : SpS G C φ im fr' Q E { s' with heap := h', toks := tk } ((run b ρ' σ).bind fun x => match x with | (.next, ρ'') => forLoop run target b src f (k + 1) ρ'' | x => pure x) := SpS.step hs' ⟨List.prefix_rfl, fun _ h => h, hf⟩ h' tk
          refine hr C ρ' σ φ mt im'' fr' m' { s' with heap := h', toks := tk } _ E b hC hE st' ?_
          induction e : run b ρ' σ using Res.casesOn with
          | fail => rw [e] at hs''; exact hs''
          | exn σ₂ =>
            rw [e] at hs''
            exact fun φ₂ mt₂ im₂ fr₂ m₂ h₂ tk₂ ex x₂ f₂ => hs'' φ₂ mt₂ im₂ fr₂ m₂ h₂ tk₂ ex ⟨x₂.ids, fun p hp => x₂.im p (hin' p hp), x₂.fr⟩ f₂
          | ok a σ₂ =>
            rw [e] at hs''
            obtain ⟨fl, ρ₂⟩ := a
            intro φ₂ mt₂ im₂ fr₂ m₂ h₂ tk₂ fw x₂ st₂ r₂
            have y : ExtS C φ im fr' φ₂ im fr₂ := ⟨x₂.ids, fun _ h => h, x₂.fr⟩
            induction fl using AFlow.casesOn with
            | next =>
              cases r₂
              exact ⟨f, Nat.lt_succ_self f, k + 1, ρ₂, σ₂, φ₂, mt₂, im₂, fr₂, m₂, st₂, ir'.mono x₂.ids x₂.im, fun p hp => x₂.im p (hin' p hp), SpS.step hs'' y h₂ tk₂⟩
            | ret a =>
              obtain ⟨v, rfl, rv⟩ := r₂
              exact hs'' φ₂ mt₂ im₂ fr₂ m₂ h₂ tk₂ _ ⟨x₂.ids, fun p hp => x₂.im p (hin' p hp), x₂.fr⟩ st₂ ⟨v, rfl, rv⟩
        refine wpAny_mono T (fun r s₁ hr => ?_) fun _ _ y => y
        induction r using Option.casesOn with
        | none => exact hr
        | some v =>
          dsimp only at hr ⊢
          refine wpAny_passesOwn hE (wpAny_mono hr (fun _ s₂ h₂ => wpAny_passesOwn hE (wpAny_mono h₂ (fun _ s₃ h₃ => wpAny_passesOwn hE h₃) fun _ _ y => y)) fun _ _ y => y)
    · rw [if_neg hsrc] at hs₁; exact hs₁.elim
  exact wpAny_For key.2 (folded_ok key.1 C.env)
end rules
end Mine
end
section
namespace Mine
open PySem PySem.W PySem.Calls PyProof.Rows

inductive FunOut (G : Gd) (a : Addr) (fi : FunInfo) : Prop
  | mk (oc od osl : _) (fd : FuncData) (hlk : G.K.lookup a = some ⟨oc, od, .func fd, osl⟩) (hbody : fd.body = .stmts fi.body) (hsc : fd.scope = fi.scope) (hgl : fd.globals = mainGlobals) (hbu : fd.builtins = builtinsNs) (hcl : fd.closure = []) (hcode : codeIn G.K fd.code fd.qualname = true)
    (hbind : ∀ vs : List Value, vs.length = fi.pars.length → PySem.bindArgs fd ⟨vs, []⟩ = pure (fi.pars.zip vs)) : FunOut G a fi
structure FunOk (G : Gd) (a : Addr) (fi : FunInfo) : Prop where
  out : FunOut G a fi
  kind : fi.scope.kind = .function
  gen : fi.scope.isGenerator = false
  co : fi.scope.isCoroutine = false
  names : ∀ p ∈ fi.scope.names, p.2 ≠ .free

theorem cellsFrom_acc {x : Str} : ∀ (ns : List (Str × NameKind)) (k : Nat) (acc : List (Str × Addr)), (acc.lookup x).isSome = true → ((cellsFrom k ns acc).lookup x).isSome = true
  | [], _, _, h => h
  | (y, kd) :: r, k, acc, h => by
    unfold cellsFrom
    split
    · refine cellsFrom_acc r _ _ ?_
      rw [List.lookup_cons]
      induction q : x == y using Bool.casesOn with
      | true => rfl
      | false => exact h
    · exact cellsFrom_acc r _ _ h
theorem cellsFrom_has {x : Str} : ∀ (ns : List (Str × NameKind)) (k : Nat) (acc : List (Str × Addr)), (x, NameKind.cell) ∈ ns → ((cellsFrom k ns acc).lookup x).isSome = true
  | (y, kd) :: r, k, acc, h => by
    unfold cellsFrom
    rcases List.mem_cons.mp h with h | h
    · cases h
      rw [if_pos (by rfl)]
      exact cellsFrom_acc r _ _ (by rw [List.lookup_cons]; simp)
    · split
      · exact cellsFrom_has r _ _ h
      · exact cellsFrom_has r _ _ h

section bind
variable {G : Gd} {φ : Ids} {im : Ledger}
theorem bind_rep {kindOf : Str → Option NameKind} {ns : List (Str × NameKind)} (hk : ∀ x, kindOf x = ns.lookup x) {xs : List Str} {args : List AV} {ρ0 ρ' : LEnv} (e : BindsA ρ0 xs args ρ') : ∀ (vs : List Value) (m0 c0 : Str → Option Value), ρ0.names = ns → RepL G φ im args vs →
    (∀ y av, ρ0.locals y = some av → ns.lookup y = some .local → ∃ v, m0 y = some v ∧ Rep G φ im av v) → (∀ y av, ρ0.cells y = some av → ns.lookup y = some .cell → ∃ v, c0 y = some v ∧ Rep G φ im av v) →
    ρ'.names = ns ∧ (∀ y av, ρ'.locals y = some av → ns.lookup y = some .local → ∃ v, bindL kindOf (xs.zip vs) m0 y = some v ∧ Rep G φ im av v) ∧ (∀ y av, ρ'.cells y = some av → ns.lookup y = some .cell → ∃ v, bindC kindOf (xs.zip vs) c0 y = some v ∧ Rep G φ im av v) ∧
    ∀ p ∈ xs.zip vs, ns.lookup p.1 = some .local ∨ ns.lookup p.1 = some .cell := by
  induction e with
  | nil =>
    intro vs m0 c0 hn r h1 h2
    induction vs using List.casesOn with
    | nil => exact ⟨hn, h1, h2, fun p hp => by cases hp⟩
    | cons _ _ => unfold RepL at r; exact r.elim
  | @cons ρ ρ1 ρ2 x xs a args e1 _ ih =>
    intro vs m0 c0 hn r h1 h2
    induction vs using List.casesOn with
    | nil => unfold RepL at r; exact r.elim
    | cons v vs =>
      unfold RepL at r
      have hz : (x :: xs).zip (v :: vs) = (x, v) :: xs.zip vs := rfl
      rw [hz]
      have hn1 := (set_names e1).trans hn
      rcases set_of e1 with ⟨hl, rfl⟩ | ⟨hl, rfl⟩
      · rw [hn] at hl
        have hkl : kindOf x = some .local := by rw [hk, hl]
        obtain ⟨i1, i2, i3, i4⟩ := ih vs (fun y => if y = x then some v else m0 y) c0 hn1 r.2 (upd_read (R := Rep G φ im) (K := fun y => ns.lookup y = some .local) h1 r.1) h2
        refine ⟨i1, ?_, ?_, List.forall_mem_cons.mpr ⟨.inl hl, i4⟩⟩
        · unfold bindL; rw [if_pos hkl]; exact i2
        · unfold bindC; rw [if_pos hkl]; exact i3
      · rw [hn] at hl
        have hkl : ¬ kindOf x = some .local := by rw [hk, hl]; decide
        obtain ⟨i1, i2, i3, i4⟩ := ih vs m0 (fun y => if y = x then some v else c0 y) hn1 r.2 h1 (upd_read (R := Rep G φ im) (K := fun y => ns.lookup y = some .cell) h2 r.1)
        refine ⟨i1, ?_, ?_, List.forall_mem_cons.mpr ⟨.inr hl, i4⟩⟩
        · unfold bindL; rw [if_neg hkl]; exact i2
        · unfold bindC; rw [if_neg hkl]; exact i3
end bind

section calls
variable {G : Gd} {C : Act} {ρ : LEnv} {σ : AHeap} {φ : Ids} {mt im fr : Ledger} {m : Str → Option Value} {n : Nat} {s : Shared}

noncomputable def Act.call (C : Act) (env : Env) : Act := { A := C.A.deeper env, env := env, fenv := env, outer := C.fenv :: C.outer }

theorem call_ok (hC : C.Ok (n + 1)) {env : Env} (hk : env.scope.kind = .function) (hg : env.globals = mainGlobals) (hb : env.builtins = builtinsNs) : (C.call env).Ok n :=
  ⟨Around.frames_deeper hC.frames, hC.hd, (by have := hC.depth; show C.A.depth + 1 + 4 * n + 4 < recursionLimit; omega), (by have := hC.units; show C.A.units + 3 + 12 * n + 80 < cLine; omega), hk, hk, hg, hb, rfl⟩

noncomputable def cellLed (h : Heap) (cs : List (Str × Addr)) : Ledger := (cs.filter fun p => cs.lookup p.1 == some p.2).map fun p => (p.2, (h.get? p.2).getD emptyDict)

theorem call_enter (st : SS G C ρ σ φ mt im fr m s.heap) {a : Addr} {fi : FunInfo} (fo : FunOk G a fi) {fd : FuncData} (hsc : fd.scope = fi.scope) (hgl : fd.globals = mainGlobals) (hbu : fd.builtins = builtinsNs) {args : List AV} {vs : List Value} (rl : RepL G φ im args vs) {ρ' : LEnv}
    (eb : bindArgs fi.pars args { names := fi.scope.names, locals := fun _ => Option.none, cells := fun _ => Option.none } = some ρ') {s₁ : Shared}
    (x : InCallC s (callEnvC fd s.heap.objs.size a).locals (bindL (callEnvC fd s.heap.objs.size a).kindOf (fi.pars.zip vs) fun _ => none) (callEnvC fd s.heap.objs.size a).cells (bindC (callEnvC fd s.heap.objs.size a).kindOf (fi.pars.zip vs) fun _ => none) s₁) :
    ∃ oL, s.heap.get? C.env.locals = some oL ∧ (∃ es ep, oL.data = .dict es ep) ∧
      SS G (C.call (callEnvC fd s.heap.objs.size a)) ρ' σ φ mt im (cellLed s₁.heap (callEnvC fd s.heap.objs.size a).cells ++ (C.env.locals, oL) :: fr) (bindL (callEnvC fd s.heap.objs.size a).kindOf (fi.pars.zip vs) fun _ => none) s₁.heap := by
  obtain ⟨oL, es, ep, gL, dL, rest⟩ := st.F.ns
  refine ⟨oL, gL, ⟨es, ep, dL⟩, ?_⟩
  generalize henv : callEnvC fd s.heap.objs.size a = env at x ⊢
  have hloc : env.locals = s.heap.objs.size := by subst henv; rfl
  have hkind : ∀ y, env.kindOf y = fi.scope.names.lookup y := fun y => by subst henv; show fd.scope.names.lookup y = _; rw [hsc]
  have hcells : env.cells = cellsFrom (s.heap.objs.size + 1) fi.scope.names [] := by subst henv; show cellsFrom _ fd.scope.names [] = _; rw [hsc]
  obtain ⟨b1, b2, b3, b4⟩ := bind_rep hkind (bindsA_of eb) vs (fun _ => none) (fun _ => none) rfl rl (fun y av e => (by exact (no_ns e).elim)) (fun y av e => (by exact (no_ns e).elim))
  have lt : ∀ {b : Addr} {o : Obj}, s.heap.get? b = some o → b < env.locals := fun g => by rw [hloc]; exact Heap.lt_size g
  have hbL : G.hb.get? C.env.locals = none := by
    induction e : G.hb.get? C.env.locals using Option.casesOn with
    | none => rfl
    | some o => exact absurd (Heap.lt_size e) (Nat.not_lt.mpr st.F.above)
  have keep := x.toInCall.keep
  have cellm : ∀ q ∈ cellLed s₁.heap env.cells, ∃ y, (y, q.1) ∈ env.cells ∧ s₁.heap.get? q.1 = some q.2 ∧ (∃ v, q.2.data = .cell v) ∧ env.locals < q.1 := fun q hq => by
    obtain ⟨p, hp, rfl⟩ := List.mem_map.mp hq
    obtain ⟨hp, hl⟩ := List.mem_filter.mp hp
    rw [beq_iff_eq] at hl
    obtain ⟨o, ho, hd⟩ := x.cell p.1 p.2 hl
    exact ⟨p.1, hp, by dsimp only; rw [ho]; rfl, ⟨_, by dsimp only; rw [ho]; exact hd⟩, x.above p.1 p.2 hp⟩
  have old : ∀ p ∈ mt ++ (im ++ fr), p.1 < env.locals := fun p hp => lt (st.N p hp).1
  refine ⟨⟨x.toInCall.ns, fun b o e => keep b o (st.F.keep b o e), ?_⟩, fun p hp => ?_, st.nd, fun p hp q hq => ?_, fun p hp q hq => ?_, st.imk, fun q hq => ?_, st.hp, fun y k e => ?_, fun y av e k => ?_, fun y hy => ?_, fun y z c e1 e2 => ?_, fun en he => ?_⟩
  · show G.hb.objs.size ≤ env.locals
    rw [hloc]; exact Nat.le_trans st.F.above (Nat.le_of_lt (Heap.lt_size gL))
  · show _ ∧ p.1 ≠ env.locals ∧ _
    rcases List.mem_append.mp hp with hp | hp
    · have P := st.N p (List.mem_append.mpr (.inl hp)); exact ⟨keep _ _ P.1, Nat.ne_of_lt (lt P.1), P.2.2⟩
    · rcases List.mem_append.mp hp with hp | hp
      · have P := st.N p (List.mem_append.mpr (.inr (List.mem_append.mpr (.inl hp)))); exact ⟨keep _ _ P.1, Nat.ne_of_lt (lt P.1), P.2.2⟩
      · rcases List.mem_append.mp hp with hp | hp
        · obtain ⟨y, _, hg, _, hlt⟩ := cellm p hp
          refine ⟨hg, Nat.ne_of_gt hlt, ?_⟩
          induction e : G.hb.get? p.1 using Option.casesOn with
          | none => rfl
          | some o => exact absurd (lt (st.F.keep _ _ e)) (Nat.not_lt.mpr (Nat.le_of_lt hlt))
        · rcases List.mem_cons.mp hp with rfl | hp
          · exact ⟨keep _ _ gL, Nat.ne_of_lt (lt gL), hbL⟩
          · have P := st.N p (List.mem_append.mpr (.inr (List.mem_append.mpr (.inr hp)))); exact ⟨keep _ _ P.1, Nat.ne_of_lt (lt P.1), P.2.2⟩
  · rcases List.mem_append.mp hq with hq | hq
    · exact st.sep p hp q (List.mem_append.mpr (.inl hq))
    · rcases List.mem_append.mp hq with hq | hq
      · obtain ⟨y, _, _, _, hlt⟩ := cellm q hq
        exact Nat.ne_of_lt (Nat.lt_trans (old p (List.mem_append.mpr (.inl hp))) hlt)
      · rcases List.mem_cons.mp hq with rfl | hq
        · exact (st.N p (List.mem_append.mpr (.inl hp))).2.1
        · exact st.sep p hp q (List.mem_append.mpr (.inr hq))
  · rcases List.mem_append.mp hq with hq | hq
    · obtain ⟨y, _, _, _, hlt⟩ := cellm q hq
      exact Nat.ne_of_lt (Nat.lt_trans (old p (List.mem_append.mpr (.inr (List.mem_append.mpr (.inl hp))))) hlt)
    · rcases List.mem_cons.mp hq with rfl | hq
      · exact (st.N p (List.mem_append.mpr (.inr (List.mem_append.mpr (.inl hp))))).2.1
      · exact st.sepf p hp q hq
  · rcases List.mem_append.mp hq with hq | hq
    · obtain ⟨y, _, _, hd, _⟩ := cellm q hq
      exact .inr (.inl hd)
    · rcases List.mem_cons.mp hq with rfl | hq
      · exact .inl ⟨es, ep, dL⟩
      · exact st.frd q hq
  · show env.kindOf y = _
    rw [b1] at e
    rw [hkind, e]
    have := fo.names (y, k) (lookup_mem e)
    rw [if_neg this]
  · rw [b1] at k
    exact b2 y av e k
  · rw [b1] at hy
    have hy' : fi.scope.names.lookup y = some .cell := by
      rcases hy with h | h
      · exact h
      · exact absurd rfl (fo.names (y, .free) (lookup_mem h))
    have hs : (env.cells.lookup y).isSome = true := by rw [hcells]; exact cellsFrom_has _ _ _ (lookup_mem hy')
    obtain ⟨c, hc⟩ := Option.isSome_iff_exists.mp hs
    obtain ⟨o, ho, hd⟩ := x.cell y c hc
    refine ⟨c, o, _, hc, ?_, hd, fun av e => b3 y av e hy'⟩
    refine List.mem_append.mpr (.inl (List.mem_map.mpr ⟨(y, c), List.mem_filter.mpr ⟨mem_of_lookup hc, by rw [beq_iff_eq]; exact hc⟩, ?_⟩))
    dsimp only
    rw [ho]; rfl
  · exact name_of_addr x.apart (mem_of_lookup e1) (mem_of_lookup e2)
  · rcases List.mem_cons.mp he with he | he
    · rw [he]
      refine ⟨?_, env.locals, ?_, .inl rfl⟩
      · show env.scope.kind ≠ .module; subst henv; show fd.scope.kind ≠ .module; rw [hsc, fo.kind]; decide
      · show env.frame = some env.locals; subst henv; rfl
    · obtain ⟨k1, b, k2, k3⟩ := st.frm en he
      refine ⟨k1, b, k2, .inr ?_⟩
      rcases k3 with rfl | ⟨o, es', n', f1, f2⟩
      · exact ⟨oL, es, ep, List.mem_append.mpr (.inr (.head _)), dL⟩
      · exact ⟨o, es', n', List.mem_append.mpr (.inr (.tail _ f1)), f2⟩
end calls
end Mine
end
section
namespace Mine
open PySem PySem.W PySem.Calls PyProof.Rows

section flies
variable {G : Gd} {C C' : Act} {ρ ρ' : LEnv} {σ σ' : AHeap} {φ φ' : Ids} {mt im fr mt' im' fr' : Ledger} {m m' : Str → Option Value} {h h' : Heap} {n : Nat} {E : Value → Shared → Prop} {s : Shared} {e : Addr}

noncomputable def noL (L : Addr) (fr : Ledger) : Ledger := fr.filter fun p => decide (p.1 ≠ L)
theorem mem_noL {L : Addr} {fr : Ledger} {p : Addr × Obj} : p ∈ noL L fr ↔ p ∈ fr ∧ p.1 ≠ L := by
  unfold noL
  simp [List.mem_filter]

theorem call_leave {oL : Obj} (st : SS G C ρ σ φ mt im fr m h) (hns : ∀ (hh : Heap) (sl : Array (Option Value)), hh.get? C.env.locals = some { oL with slots := sl } → hh.Ns C.env.locals m)
    (st' : SS G C' ρ' σ' φ' mt' im' fr' m' h') (hφ : φ <+: φ') (him : ∀ p ∈ im, p ∈ im') (hfr : ∀ p ∈ fr, FrIn p fr') (hL : FrIn (C.env.locals, oL) fr') :
    SS G C ρ σ' φ' mt' im' (noL C.env.locals fr') m h' ∧ Ext φ im fr φ' im' (noL C.env.locals fr') := by
  obtain ⟨sl, hLm, _⟩ := hL
  have gL := st'.frIn hLm
  dsimp only at gL
  have frIn' : ∀ p ∈ fr, FrIn p (noL C.env.locals fr') := fun p hp => by
    obtain ⟨s1, h1, h2⟩ := hfr p hp
    exact ⟨s1, mem_noL.mpr ⟨h1, (st.N p (List.mem_append.mpr (.inr (List.mem_append.mpr (.inr hp))))).2.1⟩, h2⟩
  have hi : ∀ p ∈ im, (p.2.cls = .type "tuple" ∨ p.2.cls = .type "list") → p ∈ im' := fun p hp _ => him p hp
  have all : ∀ p ∈ mt' ++ (im' ++ noL C.env.locals fr'), p ∈ mt' ++ (im' ++ fr') := fun p hp => by
    rcases List.mem_append.mp hp with hp | hp
    · exact List.mem_append.mpr (.inl hp)
    · rcases List.mem_append.mp hp with hp | hp
      · exact List.mem_append.mpr (.inr (List.mem_append.mpr (.inl hp)))
      · exact List.mem_append.mpr (.inr (List.mem_append.mpr (.inr (mem_noL.mp hp).1)))
  have notL : ∀ p ∈ mt' ++ (im' ++ noL C.env.locals fr'), p.1 ≠ C.env.locals := fun p hp => by
    rcases List.mem_append.mp hp with hp | hp
    · exact st'.sep p hp _ (List.mem_append.mpr (.inr hLm))
    · rcases List.mem_append.mp hp with hp | hp
      · exact st'.sepf p hp _ hLm
      · exact (mem_noL.mp hp).2
  refine ⟨⟨⟨hns h' sl gL, st'.F.keep, st.F.above⟩, fun p hp => ⟨(st'.N p (all p hp)).1, notL p hp, (st'.N p (all p hp)).2.2⟩, st'.nd, fun p hp q hq => ?_, fun p hp q hq => st'.sepf p hp q (mem_noL.mp hq).1, st'.imk, fun q hq => st'.frd q (mem_noL.mp hq).1, st'.hp, st.kinds, fun x av e k => ?_, fun x k => ?_, st.apart, fun env he => ?_⟩,
    ⟨hφ, him, frIn'⟩⟩
  · rcases List.mem_append.mp hq with hq | hq
    · exact st'.sep p hp q (List.mem_append.mpr (.inl hq))
    · exact st'.sep p hp q (List.mem_append.mpr (.inr (mem_noL.mp hq).1))
  · obtain ⟨v, e1, e2⟩ := st.loc x av e k
    exact ⟨v, e1, Rep.mono G hφ hi e2⟩
  · obtain ⟨c, o, v₀, e1, e2, e3, e4⟩ := st.cell x k
    obtain ⟨s1, h1, h2⟩ := frIn' _ e2
    refine ⟨c, _, v₀, e1, h1, e3, fun av e => ?_⟩
    obtain ⟨v, e5, e6⟩ := e4 av e
    exact ⟨v, e5, Rep.mono G hφ hi e6⟩
  · obtain ⟨k1, b, k2, k3⟩ := st.frm env he
    refine ⟨k1, b, k2, ?_⟩
    rcases k3 with rfl | ⟨o, es, nn', f1, f2⟩
    · exact .inl rfl
    · obtain ⟨s1, h1, _⟩ := frIn' _ f1
      exact .inr ⟨_, es, nn', h1, f2⟩

theorem fly_leave {oL : Obj} (st : SS G C ρ σ φ mt im fr m h) (hns : ∀ (hh : Heap) (sl : Array (Option Value)), hh.get? C.env.locals = some { oL with slots := sl } → hh.Ns C.env.locals m)
    (hC' : C'.outer = C.fenv :: C.outer) (f : Fly G C' σ' φ' mt' im' fr' m' e h') (hφ : φ <+: φ') (him : ∀ p ∈ im, p ∈ im') (hfr : ∀ p ∈ fr, FrIn p fr') (hL : FrIn (C.env.locals, oL) fr') :
    Fly G C σ' φ' mt' im' (noL C.env.locals fr') m e h' ∧ Ext φ im fr φ' im' (noL C.env.locals fr') := by
  obtain ⟨sl, hLm, _⟩ := hL
  have gL := (f.frs _ hLm).1
  dsimp only at gL
  obtain ⟨B, a0, fl, b1, b2, b3, b4, b5, b6, b7⟩ := f.out
  rw [hC'] at b6
  refine ⟨⟨hns h' sl gL, st.F.above, ⟨B, a0, fl, b1, b2, fun q hq hc => b3 q (mem_noL.mp hq).1 hc, b4, b5, b6.2.2, b7⟩, fun q hq => f.frs q (mem_noL.mp hq).1, f.new, fun q hq => ?_, f.nd, fun p hp q hq => ?_, fun p hp q hq => f.sepf p hp q (mem_noL.mp hq).1, f.imk, fun q hq => f.frd q (mem_noL.mp hq).1, f.hp⟩, ⟨hφ, him, fun p hp => ?_⟩⟩
  · rcases List.mem_append.mp hq with hq | hq
    · exact f.sep q hq _ (List.mem_append.mpr (.inr hLm))
    · rcases List.mem_append.mp hq with hq | hq
      · exact f.sepf q hq _ hLm
      · exact (mem_noL.mp hq).2
  · rcases List.mem_append.mp hq with hq | hq
    · exact f.sep p hp q (List.mem_append.mpr (.inl hq))
    · exact f.sep p hp q (List.mem_append.mpr (.inr (mem_noL.mp hq).1))
  · obtain ⟨s1, h1, h2⟩ := hfr p hp
    exact ⟨s1, mem_noL.mpr ⟨h1, (st.N p (List.mem_append.mpr (.inr (List.mem_append.mpr (.inr hp))))).2.1⟩, h2⟩

theorem FlyN.next (f : FlyN G C σ φ mt im fr m e h) {B : Heap} {a0 fl : Value} (b1 : G.hb.StaysIn B) (b2 : ∀ q ∈ mt ++ im, B.get? q.1 = some q.2) (b3 : ∀ q ∈ fr, IsL q.2 → B.get? q.1 = some q.2)
    (k1 : B.StaysIn h') (k2 : B.get? e = none) (k3 : h'.FunFrames B (C.fenv :: C.outer)) (k4 : h'.TracedAtW B e lowerFault a0 fl) (k5 : h.UpToSlots h') : ∃ fr', Ext φ im fr φ im fr' ∧ Fly G C σ φ mt im fr' m e h' := by
  have hx : ∀ p ∈ fr, ∃ sl, h'.get? p.1 = some { p.2 with slots := sl } ∧ (IsL p.2 → sl = p.2.slots) := fun p hp => by
    by_cases hc : IsL p.2
    · exact ⟨p.2.slots, k1 _ _ (b3 p hp hc), fun _ => rfl⟩
    · obtain ⟨sl, hs⟩ := k5 p.1 p.2 (f.frs p hp).1 fun vs hd => by
        rcases f.frd p hp with ⟨es, n, e'⟩ | ⟨v, e'⟩ | e'
        · rw [e'] at hd; cases hd
        · rw [e'] at hd; cases hd
        · exact hc e'
      exact ⟨sl, hs, fun q => absurd q hc⟩
  have mem : ∀ q ∈ refr h' fr, ∃ p ∈ fr, ∃ sl, q = (p.1, { p.2 with slots := sl }) ∧ h'.get? p.1 = some { p.2 with slots := sl } ∧ (IsL p.2 → sl = p.2.slots) := fun q hq => by
    obtain ⟨p, hp, rfl⟩ := List.mem_map.mp hq
    obtain ⟨sl, hs, hc⟩ := hx p hp
    exact ⟨p, hp, sl, by rw [hs]; rfl, hs, hc⟩
  refine ⟨refr h' fr, ⟨List.prefix_rfl, fun _ h => h, fun p hp => ?_⟩, ?_⟩
  · obtain ⟨sl, hs, hc⟩ := hx p hp
    exact ⟨sl, List.mem_map.mpr ⟨p, hp, by rw [hs]; rfl⟩, hc⟩
  · refine ⟨k5.ns f.ns, f.abv, ⟨B, a0, fl, b1, b2, fun q hq hc => ?_, k1, k2, k3, k4⟩, fun q hq => ?_, f.new, fun q hq => ?_, f.nd, fun p hp q hq => ?_, fun p hp q hq => ?_, f.imk, fun q hq => ?_, f.hp⟩
    · obtain ⟨p, hp, sl, rfl, hs, hl⟩ := mem q hq
      have hc : IsL p.2 := hc
      have := b3 p hp hc
      rw [hl hc]
      exact this
    · obtain ⟨p, hp, sl, rfl, hs, _⟩ := mem q hq
      exact ⟨hs, (f.frs p hp).2⟩
    · rcases List.mem_append.mp hq with hq | hq
      · exact f.own q (List.mem_append.mpr (.inl hq))
      · rcases List.mem_append.mp hq with hq | hq
        · exact f.own q (List.mem_append.mpr (.inr (List.mem_append.mpr (.inl hq))))
        · obtain ⟨p, hp, sl, rfl, _⟩ := mem q hq
          exact f.own p (List.mem_append.mpr (.inr (List.mem_append.mpr (.inr hp))))
    · rcases List.mem_append.mp hq with hq | hq
      · exact f.sep p hp q (List.mem_append.mpr (.inl hq))
      · obtain ⟨r, hr, sl, rfl, _⟩ := mem q hq
        exact f.sep p hp r (List.mem_append.mpr (.inr hr))
    · obtain ⟨r, hr, sl, rfl, _⟩ := mem q hq
      exact f.sepf p hp r hr
    · obtain ⟨r, hr, sl, rfl, _⟩ := mem q hq
      exact f.frd r hr

theorem flyN_note {A : Around} (f : FlyN G C σ φ mt im fr m e s.heap) (hA : A.frames = some (C.fenv :: C.outer)) {env : Env} (he : env.frame = C.fenv.frame) {Q : Unit → Shared → Prop}
    (hQ : ∀ h' fr', Ext φ im fr φ im fr' → Fly G C σ φ mt im fr' m e h' → Q () { s with heap := h' }) : wpAny (model G.prog G.w) A (noteFrame (.ref e) env) Q E s := by
  rw [noteFrame_congr he]
  obtain ⟨B, a0, oe, vs, b1, b2, b3, b4, b5, b6, c1, c2, c3, c4, c5⟩ := f.out
  obtain ⟨hk, ⟨L, o, hf, hn, ho, hd⟩, hr⟩ := id b6
  unfold noteFrame
  simp only [hf]
  refine wpAny_bind (wpAny_field c1 c3 c4 ?_)
  rw [if_neg (by decide)]
  refine wpAny_entryW (hadNext := Value.none != Value.none) hA b6 hf c1 b4 b5 c3 (Array.getElem?_eq_some_iff.mp c4).1 c5 fun h' hN => ?_
  obtain ⟨k1, k2, k3, k4⟩ := hN
  rw [c2] at k3
  obtain ⟨fr', x, f'⟩ := f.next b1 b2 b3 k1 b5 k2 k3 k4
  exact hQ h' fr' x f'

theorem exn_leaving {A : Around} (f : Fly G C σ φ mt im fr m e s.heap ∨ FlyN G C σ φ mt im fr m e s.heap) (hA : A.frames = some (C.fenv :: C.outer)) (he : C.env.frame = C.fenv.frame) {Q : Unit → Shared → Prop}
    (hQ : ∀ h' fr', Ext φ im fr φ im fr' → Fly G C σ φ mt im fr' m e h' → Q () { s with heap := h' }) : wpAny (model G.prog G.w) A (leaving C.env (.ref e)) Q E s := by
  unfold leaving
  have go : ∀ h' fr', Ext φ im fr φ im fr' → Fly G C σ φ mt im fr' m e h' → wpAny (model G.prog G.w) A (setFlight (.ref e) none) Q E { s with heap := h' } := fun h' fr' x f' =>
    fly_flight (s := { s with heap := h' }) f' fun h'' fr'' x' f'' => hQ h'' fr'' (x.trans x') f''
  rcases f with f | f
  · exact wpAny_bind (fly_note f hA he go)
  · exact wpAny_bind (flyN_note f hA he go)
end flies

section calls
variable {G : Gd} {C : Act} {ρ : LEnv} {σ : AHeap} {φ : Ids} {mt im fr : Ledger} {m : Str → Option Value} {n : Nat} {s : Shared}

theorem call_fun (ok : G.Ok) {a : Addr} {fi : FunInfo} (fo : FunOk G a fi) {c : Callee} (hx : XSim G n (evS G.tb c stmtDepth)) (hC : C.Ok (n + 1)) {args : List AV} {vs : List Value} {R : Result → Shared → Prop} (rl : RepL G φ im args vs) (st : SS G C ρ σ φ mt im fr m s.heap)
    (hs : Sp G C ρ m (Rep G) φ im fr (fun v s' => R (.ok (.ret v)) s') (fun e s' => R (.error e) s') s (enter G.tb c fi args σ)) : codeAny (model G.prog G.w) C.A (.call (.ref a) ⟨vs, []⟩) R s := by
  obtain ⟨oc, od, osl, fd, hlk, hbody, hsc, hgl, hbu, hclo, hcode, hbind⟩ := fo.out
  unfold enter at hs
  obtain ⟨ρ', eb, hs⟩ := liftO_out (K := Sp G C ρ m (Rep G) φ im fr (fun v s' => R (.ok (.ret v)) s') (fun e s' => R (.error e) s') s) (fun q => q) hs
  have hlen : vs.length = fi.pars.length := by rw [rl.length, bindArgs_length eb]
  have hX := ok.X.keeps st.F.keep
  have hsz : ∀ b, b ∈ fi.pars.zip vs → fd.scope.names.lookup b.1 = some .local ∨ (fd.scope.names.lookup b.1 = some .cell ∧ ((cellsFrom (s.heap.objs.size + 1) fd.scope.names []).lookup b.1).isSome = true) := fun b hb => by
    obtain ⟨_, _, _, b4⟩ := bind_rep (G := G) (φ := φ) (im := im) (kindOf := fun y => fi.scope.names.lookup y) (fun _ => rfl) (bindsA_of eb) vs (fun _ => none) (fun _ => none) rfl rl (fun y av e => (by exact (no_ns e).elim)) (fun y av e => (by exact (no_ns e).elim))
    rw [hsc]
    rcases b4 b hb with h | h
    · exact .inl h
    · exact .inr ⟨h, cellsFrom_has _ _ _ (lookup_mem h)⟩
  refine codeAny_call_cells (fd := fd) (body := fi.body) (binds := fi.pars.zip vs) (by have := hC.depth; omega) (hX _ _ hlk) rfl (ok.Tp.nolimit.keeps st.F.keep) (codeRec_of hX hcode) hbody (hbind vs hlen) hclo hsz ?_ (by rw [hsc]; exact fo.co) (by rw [hsc]; exact fo.gen) (by rw [hsc]; exact fo.kind)
  intro s₁ x
  obtain ⟨oL, gL, ⟨es, ep, dL⟩, st₁⟩ := call_enter st fo hsc hgl hbu rl eb x
  obtain ⟨h₁, tk₁, rfl⟩ := x.toInCall.same
  have hnsL : ∀ (hh : Heap) (sl : Array (Option Value)), hh.get? C.env.locals = some { oL with slots := sl } → hh.Ns C.env.locals m := fun hh sl g => by
    obtain ⟨o, es', ep', g', d', rest⟩ := st.F.ns
    rw [gL] at g'
    cases g'
    exact ⟨_, es', ep', g, d', rest⟩
  have hC' : (C.call (callEnvC fd s.heap.objs.size a)).Ok n := call_ok hC (by show fd.scope.kind = _; rw [hsc]; exact fo.kind) hgl hbu
  generalize henv : callEnvC fd s.heap.objs.size a = env at x st₁ hC' ⊢
  have habove : ∀ y c', env.cells.lookup y = some c' → s.heap.objs.size < c' := fun y c' hl => by
    have := x.above y c' (mem_of_lookup hl)
    have hl' : env.locals = s.heap.objs.size := by subst henv; rfl
    rw [hl'] at this
    exact this
  have base : ∀ {φ' im' fr'}, ExtS (C.call env) φ im (cellLed h₁ env.cells ++ (C.env.locals, oL) :: fr) φ' im' fr' → φ <+: φ' ∧ (∀ p ∈ im, p ∈ im') ∧ (∀ p ∈ fr, FrIn p fr') ∧ FrIn (C.env.locals, oL) fr' := fun y => by
    refine ⟨y.ids, y.im, fun p hp => y.fr p (List.mem_append.mpr (.inr (.tail _ hp))) fun z hz => ?_, y.fr _ (List.mem_append.mpr (.inr (.head _))) fun z hz => ?_⟩
    · have := habove z _ hz
      exact absurd (st.lt (List.mem_append.mpr (.inr (List.mem_append.mpr (.inr hp))))) (Nat.not_lt.mpr (Nat.le_of_lt this))
    · have := habove z _ hz
      exact absurd (Heap.lt_size gL) (Nat.not_lt.mpr (Nat.le_of_lt this))
  refine xs_block hx (C.call env) ρ' σ φ mt im _ _ { s with heap := h₁, toks := tk₁ } _ _ fi.body hC' PassesOwn.leaving st₁ ?_
  change Sp G C ρ m (Rep G) φ im fr (fun v s' => R (.ok (.ret v)) s') (fun e s' => R (.error e) s') s ((runBlock (evS G.tb c stmtDepth) fi.body ρ' σ).bind _) at hs
  induction er : runBlock (evS G.tb c stmtDepth) fi.body ρ' σ using Res.casesOn with
  | fail => rw [er] at hs; exact hs
  | exn σ' =>
    rw [er] at hs
    intro φ' mt' im' fr' m' h' tk' e y f
    refine exn_leaving (C := C.call env) (s := { s with heap := h', toks := tk' }) f hC'.frames hC'.frm fun h'' fr'' y' f' => ?_
    obtain ⟨b1, b2, b3, b4⟩ := base (y.trans y'.toS)
    obtain ⟨f2, x2⟩ := fly_leave st hnsL rfl f' b1 b2 b3 b4
    exact hs φ' mt' im' _ h'' tk' e x2 f2
  | ok r σ' =>
    rw [er] at hs
    obtain ⟨fl, ρ''⟩ := r
    intro φ' mt' im' fr' m' h' tk' fw y st' rf
    obtain ⟨b1, b2, b3, b4⟩ := base y
    obtain ⟨s2, x2⟩ := call_leave st hnsL st' b1 b2 b3 b4
    induction fl using AFlow.casesOn with
    | next =>
      cases rf
      exact hs φ' mt' im' _ h' tk' .none x2 s2 rep_none
    | ret av =>
      obtain ⟨v, rfl, rv⟩ := rf
      exact hs φ' mt' im' _ h' tk' v x2 s2 rv
end calls
end Mine
end
section
namespace Mine
open PySem PySem.W PySem.Calls PyProof.Rows

section around
variable {G : Gd} {C : Act} {A : Around} {ρ : LEnv} {σ : AHeap} {φ : Ids} {mt im fr : Ledger} {m : Str → Option Value} {h : Heap} {e : Addr}
noncomputable def Act.under (C : Act) (A : Around) : Act := { C with A := A }
theorem SS.under (st : SS G C ρ σ φ mt im fr m h) (A : Around) : SS G (C.under A) ρ σ φ mt im fr m h :=
  ⟨st.F, st.N, st.nd, st.sep, st.sepf, st.imk, st.frd, st.hp, st.kinds, st.loc, st.cell, st.apart, st.frm⟩
theorem SS.back (st : SS G (C.under A) ρ σ φ mt im fr m h) : SS G C ρ σ φ mt im fr m h :=
  ⟨st.F, st.N, st.nd, st.sep, st.sepf, st.imk, st.frd, st.hp, st.kinds, st.loc, st.cell, st.apart, st.frm⟩
theorem Fly.back (f : Fly G (C.under A) σ φ mt im fr m e h) : Fly G C σ φ mt im fr m e h :=
  ⟨f.ns, f.abv, f.out, f.frs, f.new, f.own, f.nd, f.sep, f.sepf, f.imk, f.frd, f.hp⟩
end around

noncomputable def CSimC (G : Gd) (n : Nat) (c : Callee) : Prop := ∀ C ρ m a l vs σ φ mt im fr s (R : Result → Shared → Prop), Act.Ok C n → RepL G φ im l vs → SS G C ρ σ φ mt im fr m s.heap →
  Sp G C ρ m (Rep G) φ im fr (fun v s' => R (.ok (.ret v)) s') (fun e s' => R (.error e) s') s (c a l σ) → codeAny (model G.prog G.w) C.A (.call (.ref a) ⟨vs, []⟩) R s
theorem CSimC.sim {G : Gd} {n : Nat} {c : Callee} (h : CSimC G n c) : CSim G n c := fun C ρ m a l vs hC σ φ mt im fr s Q E rl st hs =>
  wpAny_call (h C ρ m a l vs σ φ mt im fr s _ hC rl st (by
    induction e : c a l σ using Res.casesOn with
    | ok v σ' => rw [e] at hs; exact hs
    | exn σ' => rw [e] at hs; exact hs
    | fail => rw [e] at hs; exact hs))

structure ClsOk (K : Frag) (c f : Addr) : Prop where
  makes : makesIn K c = true
  init : findIn K (.ref c) "__init__" = some (some (.ref f))
  fn : isFn K (.ref f) = true

structure Gd.Ok2 (G : Gd) : Prop extends G.Ok where
  funs : ∀ a fi, G.fn a = some fi → FunOk G a fi
  clss : ∀ c f, G.tb.initAt c = some f → ClsOk G.K c f

noncomputable def RaiseSim (G : Gd) (n : Nat) : Prop := ∀ C ρ σ φ mt im fr m s Q E a (x : Str) p cp pos (ev : Ev), Act.Ok C n → EvSim G n ev → SS G C ρ σ φ mt im fr m s.heap → SpS G C φ im fr Q E s ((if faultName G.tb ρ x && okE a then do
      match ← ev.e a ρ with
      | .str _ => raiseM
      | _ => failM
    else failM : M (AFlow × LEnv)) σ) → wpAny (model G.prog G.w) C.A (exec (.Raise (some (.Call (.Name x p) [a] [] cp)) none pos) C.env) Q E s
noncomputable def TrySim (G : Gd) (n : Nat) : Prop := ∀ C ρ σ φ mt im fr m s Q E e (x : Str) p1 p2 k p3 p4 p5 pos (ev : Ev), Act.Ok C n → PassesOwn (model G.prog G.w) C.A C.env E → EvSim G n ev → SS G C ρ σ φ mt im fr m s.heap →
  SpS G C φ im fr Q E s ((if faultName G.tb ρ x then tryBody (do return (.ret (← ev.e e ρ), ρ)) ρ else failM : M (AFlow × LEnv)) σ) →
  wpAny (model G.prog G.w) C.A (exec (.Try [.Return (some e) p1] [.ExceptHandler (some (.Name x p2)) none [.Return (some (.Constant .none k p3)) p4] p5] [] [] pos) C.env) Q E s

theorem raiseForm_some {e c : Option Expr} {x : Str} {a : Expr} (h : raiseForm e c = some (x, a)) : ∃ p1 p2, e = some (.Call (.Name x p1) [a] [] p2) ∧ c = none := by
  induction c using Option.casesOn with
  | some _ => exact (no_ns h).elim
  | none =>
    obtain ⟨e, rfl, h⟩ := opt_bind (f := callName) h
    obtain ⟨p1, p2, rfl⟩ := callName_some h
    exact ⟨p1, p2, rfl, rfl⟩
theorem noneC_of {c : Const} (h : noneC c = true) : c = .none := by induction c using PySem.Const.casesOn with
  | none => rfl
  | _ => exact (no_ft h).elim
theorem retOf_some {s : Stmt} {e : Option Expr} (h : retOf s = some e) : ∃ p, s = .Return e p := told_some (P := fun e => ∃ p, s = .Return e p) h
theorem handOf_some {h : ExceptHandler} {x : Str} {b : List Stmt} (e : handOf h = some (x, b)) : ∃ p1 p2, h = .ExceptHandler (some (.Name x p1)) none b p2 := by
  obtain ⟨t, n, b', p⟩ := h
  induction n using Option.casesOn with
  | some _ => exact (no_ns e).elim
  | none =>
    obtain ⟨t, rfl, e⟩ := opt_bind (f := fun e => (nameOf e).bind fun x => some (x, b')) e
    obtain ⟨y, e1, e⟩ := opt_bind e
    cases e
    obtain ⟨p1, rfl⟩ := nameOf_some e1
    exact ⟨p1, p, rfl⟩
theorem retE_some {b : List Stmt} {e : Expr} (h : retE b = some e) : ∃ p, b = [.Return (some e) p] := by
  obtain ⟨s, e1, h1⟩ := opt_bind h
  obtain ⟨o, e2, h2⟩ := opt_bind h1
  obtain ⟨p, e3⟩ := retOf_some e2
  exact ⟨p, by rw [oneOf_some e1, e3, h2]⟩
theorem handE_some {h : List ExceptHandler} {x : Str} (e : handE h = some x) : ∃ p2 k p3 p4 p5, h = [.ExceptHandler (some (.Name x p2)) none [.Return (some (.Constant .none k p3)) p4] p5] := by
  obtain ⟨s, e1, h1⟩ := opt_bind e
  obtain ⟨r, e2, h2⟩ := opt_bind h1
  obtain ⟨n, e3, h3⟩ := opt_bind h2
  obtain ⟨c, e4, h4⟩ := opt_bind h3
  obtain ⟨hk, h5⟩ := opt_if h4
  obtain ⟨p2, p5, e6⟩ := handOf_some (x := r.1) (b := r.2) e2
  obtain ⟨p4, e7⟩ := retE_some e3
  obtain ⟨k, p3, e8⟩ := constOf_some e4
  clear e h1 h2 h3 h4
  subst h5
  exact ⟨p2, k, p3, p4, p5, by rw [oneOf_some e1, e6, e7, e8, noneC_of hk]⟩
theorem tryForm_some {b : List Stmt} {h : List ExceptHandler} {o f : List Stmt} {r : Expr × Str} (hh : tryForm b h o f = some r) :
    ∃ p1 p2 k p3 p4 p5, b = [.Return (some r.1) p1] ∧ h = [.ExceptHandler (some (.Name r.2 p2)) none [.Return (some (.Constant .none k p3)) p4] p5] ∧ o = [] ∧ f = [] := by
  obtain ⟨e, e1, h1⟩ := opt_bind hh
  obtain ⟨x, e2, h2⟩ := opt_bind h1
  obtain ⟨hk, h3⟩ := opt_if h2
  obtain ⟨p1, e3⟩ := retE_some e1
  obtain ⟨p2, k, p3, p4, p5, e4⟩ := handE_some e2
  clear hh h1 h2
  subst h3
  obtain ⟨ho, hf⟩ := (Bool.and_eq_true _ _).mp hk
  exact ⟨p1, p2, k, p3, p4, p5, e3, e4, isEmpty_of ho, isEmpty_of hf⟩
set_option maxHeartbeats 800000 in
theorem xSim_step {G : Gd} {n : Nat} (ok : G.Ok) {c : Callee} (hc : CSim G n c) {ev : Ev} (h : EvSim G n ev) {run : List Stmt → LEnv → M (AFlow × LEnv)} (hr : XsSim G n run) (hR : RaiseSim G n) (hT : TrySim G n) :
    XSim G n (stepS G.tb ⟨stepE G.tb c ev, stepT ev⟩ run) := by
  have h' : EvSim G n ⟨stepE G.tb c ev, stepT ev⟩ := evSim_step ok h hc
  generalize hev : (⟨stepE G.tb c ev, stepT ev⟩ : Ev) = ev' at h'
  intro C ρ σ φ mt im fr m s Q E st hC hE ss hs
  induction st using PySem.Stmt.casesOn with
  | Expr v p =>
    induction v using PySem.Expr.casesOn with
    | Call f args ks q => exact x_Expr (ev := ev') h' hC ss hs
    | _ => exact hs.elim
  | Return o p =>
    induction o using Option.casesOn with
    | none => exact wpAny_Return_none (hs φ mt im fr m s.heap s.toks _ (ExtS.refl ..) ss ⟨.none, rfl, rep_none⟩)
    | some e => exact x_Return (ev := ev') h' hC ss hs
  | Assign ts e p =>
    induction ts using List.casesOn with
    | nil => exact hs.elim
    | cons t r =>
      induction r using List.casesOn with
      | cons _ _ => cases t <;> exact hs.elim
      | nil =>
        induction t using PySem.Expr.casesOn with
        | Name x q =>
          subst hev
          exact x_AssignName (ev := ev) ok h hC hE h'.e ss hs
        | Tuple ts k q => exact x_AssignTuple (ev := ev') h' hC ss hs
        | Attribute o x q =>
          change SpS G C φ im fr Q E s ((if notComp e = true then _ else failM : M (AFlow × LEnv)) σ) at hs
          split at hs
          · rename_i hn; exact x_AssignAttr (ev := ev') ok h' hC hn ss hs
          · exact hs.elim
        | Subscript o i q =>
          change SpS G C φ im fr Q E s ((if notComp e = true then _ else failM : M (AFlow × LEnv)) σ) at hs
          split at hs
          · rename_i hn; exact x_AssignItem (ev := ev') h' hC hn ss hs
          · exact hs.elim
        | _ => exact hs.elim
  | If t b o p => exact x_If (ev := ev') h' hr hC hE ss hs
  | While t b o p =>
    induction o using List.casesOn with
    | nil => exact x_While (ev := ev') h' hr hC hE ss hs
    | cons _ _ => exact hs.elim
  | For t i b o p =>
    induction o using List.casesOn with
    | nil => exact x_For (ev := ev') ok h' hr hC hE ss hs
    | cons _ _ => exact hs.elim
  | Raise e c p =>
    change SpS G C φ im fr Q E s ((match raiseForm e c with | some (x, a) => _ | none => failM : M (AFlow × LEnv)) σ) at hs
    induction q : raiseForm e c using Option.casesOn with
    | none => rw [q] at hs; exact hs.elim
    | some r =>
      obtain ⟨x, a⟩ := r
      rw [q] at hs
      obtain ⟨p1, p2, rfl, rfl⟩ := raiseForm_some q
      exact hR C ρ σ φ mt im fr m s Q E _ _ _ _ _ ev' hC h' ss hs
  | Try b h o f p =>
    change SpS G C φ im fr Q E s ((match tryForm b h o f with | some (e, x) => _ | none => failM : M (AFlow × LEnv)) σ) at hs
    induction q : tryForm b h o f using Option.casesOn with
    | none => rw [q] at hs; exact hs.elim
    | some r =>
      obtain ⟨e, x⟩ := r
      rw [q] at hs
      obtain ⟨p1, p2, k, p3, p4, p5, rfl, rfl, rfl, rfl⟩ := tryForm_some q
      exact hT C ρ σ φ mt im fr m s Q E _ _ _ _ _ _ _ _ _ ev' hC hE h' ss hs
  | _ => exact hs.elim
theorem xSim {G : Gd} {n : Nat} (ok : G.Ok) {c : Callee} (hc : CSim G n c) (hR : RaiseSim G n) (hT : TrySim G n) : ∀ d, XSim G n (evS G.tb c d)
  | 0 => fun _ _ _ _ _ _ _ _ _ _ _ _ _ _ _ hs => hs.elim
  | d + 1 => by
    have := xSim_step ok hc (evSim ok hc 23) (xs_block (xSim ok hc hR hT d)) hR hT
    exact this

theorem under_type {A : Around} {a : Addr} {vs : List Value} : (A.under (.builtin "type.__call__" ⟨.ref a :: vs, []⟩)).frames = A.frames ∧ (A.under (.builtin "type.__call__" ⟨.ref a :: vs, []⟩)).handled = A.handled ∧
    (A.under (.builtin "type.__call__" ⟨.ref a :: vs, []⟩)).depth = A.depth + 1 ∧ (A.under (.builtin "type.__call__" ⟨.ref a :: vs, []⟩)).units = A.units + 1 := by
  refine ⟨?_, rfl, ?_, ?_⟩
  · show pushEnvs (Code.builtin "type.__call__" ⟨.ref a :: vs, []⟩).envs A.frames = _
    have : (Code.builtin "type.__call__" ⟨.ref a :: vs, []⟩).envs = [] := rfl
    rw [this]; rfl
  · show A.depth + (Code.builtin "type.__call__" ⟨.ref a :: vs, []⟩).weight = _
    have : (Code.builtin "type.__call__" ⟨.ref a :: vs, []⟩).weight = 1 := rfl
    rw [this]
  · show A.units + (Code.builtin "type.__call__" ⟨.ref a :: vs, []⟩).cUnits = _
    have : (Code.builtin "type.__call__" ⟨.ref a :: vs, []⟩).cUnits = 1 := rfl
    rw [this]

theorem csim {G : Gd} (ok : G.Ok2) (hR : ∀ n, RaiseSim G n) (hT : ∀ n, TrySim G n) : ∀ n, CSimC G n (callF G.tb G.fn n)
  | 0 => fun _ _ _ _ _ _ _ _ _ _ _ _ _ _ _ _ hs => hs.elim
  | n + 1 => by
    have ih := csim ok hR hT n
    intro C ρ m a l vs σ φ mt im fr s R hC rl st hs
    unfold callF at hs
    induction e : G.fn a using Option.casesOn with
    | some fi =>
      rw [e] at hs
      exact call_fun ok.toOk (ok.funs a fi e) (xSim ok.toOk ih.sim (hR n) (hT n) stmtDepth) hC rl st hs
    | none =>
      rw [e] at hs
      dsimp only at hs
      induction e' : G.tb.initAt a using Option.casesOn with
      | none => rw [e'] at hs; exact hs.elim
      | some fI =>
        rw [e'] at hs
        have co := ok.clss a fI e'
        refine make_K st.F st.N (ok.X.keeps st.F.keep) co.makes co.init (beq_iff_eq.mp co.fn) fun x dx h' F' N' hlt hxd => ?_
        obtain ⟨u1, u2, u3, u4⟩ := under_type (A := C.A) (a := a) (vs := vs)
        have hC2 : (C.under (C.A.under (.builtin "type.__call__" ⟨.ref a :: vs, []⟩))).Ok n := ⟨u1.trans hC.frames, u2.trans hC.hd, (by have := hC.depth; show (C.A.under _).depth + 4 * n + 4 < _; rw [u3]; omega), (by have := hC.units; show (C.A.under _).units + 12 * n + 80 < _; rw [u4]; omega), hC.kind, hC.fkind, hC.glo, hC.bui, hC.frm⟩
        have st2 : SS G C ρ (σ ++ [.inst a []]) (φ ++ [(x, dx)]) ([(x, instObj a dx), (dx, dictOf [] 0)] ++ mt) im fr m h' :=
          st.allocB (bd := dx) hlt F' (by simpa using N') (fun q hq => by
            simp only [List.mem_cons, List.not_mem_nil, or_false] at hq
            rcases hq with rfl | rfl
            · exact Nat.le_of_lt hxd
            · exact Nat.le_refl _) (by simp [Nat.ne_of_gt hxd]) ⟨Nat.le_of_lt hxd, Nat.le_refl _⟩ ⟨Nat.ne_of_gt hxd, [], 0, .head _, .tail _ (.head _), trivial⟩
        refine ih (C.under _) ρ m fI (.obj σ.length :: l) (.ref x :: vs) _ (φ ++ [(x, dx)]) _ im fr { s with heap := h' } _ hC2 (RepL.cons (rep_obj_new st.hp.len) (repL_more rl _)) (st2.under _) ?_
        change Sp G C ρ m (Rep G) φ im fr _ _ s ((callF G.tb G.fn n fI (.obj σ.length :: l) (σ ++ [.inst a []])).bind _) at hs
        have hobj : ∀ {φ' im'}, φ ++ [(x, dx)] <+: φ' → Rep G φ' im' (.obj σ.length) (.ref x) := fun hp => by
          have r := rep_obj_new (G := G) (p := (x, dx)) (im := im) st.hp.len
          unfold Rep at r ⊢
          obtain ⟨p, e1, e2⟩ := r
          exact ⟨p, prefix_get hp e1, e2⟩
        induction er : callF G.tb G.fn n fI (.obj σ.length :: l) (σ ++ [.inst a []]) using Res.casesOn with
        | fail => rw [er] at hs; exact hs
        | exn σ' =>
          rw [er] at hs
          intro φ' mt' im' fr' h'' tk' e y f
          exact hs φ' mt' im' fr' h'' tk' e ((Ext.alloc (x, dx)).trans y) f.back
        | ok av σ' =>
          rw [er] at hs
          intro φ' mt' im' fr' h'' tk' v y st' r
          induction av using AV.casesOn with
          | none =>
            unfold Rep at r
            subst r
            exact ⟨rfl, hs φ' mt' im' fr' h'' tk' (.ref x) ((Ext.alloc (x, dx)).trans y) st'.back (hobj y.ids)⟩
          | _ => exact hs.elim
end Mine
end
section
namespace Mine
open PySem PySem.W PySem.Calls PyProof.Rows

section
variable {G : Gd} {C : Act} {ρ : LEnv} {σ σ' : AHeap} {φ φ' : Ids} {mt im fr mt' im' fr' : Ledger} {m : Str → Option Value} {h h' : Heap} {n : Nat} {E : Value → Shared → Prop} {s : Shared} {e : Addr}

theorem Fly.state (st : SS G C ρ σ φ mt im fr m h) (x : Ext φ im fr φ' im' fr') (f : Fly G C σ' φ' mt' im' fr' m e h') : SS G C ρ σ' φ' mt' im' fr' m h' := by
  obtain ⟨B, a0, fl, b1, b2, b3, b4, b5, b6, b7⟩ := f.out
  refine ⟨⟨f.ns, fun b o g => b4 b o (b1 b o g), f.abv⟩, fun p hp => ?_, f.nd, f.sep, f.sepf, f.imk, f.frd, f.hp, st.kinds, fun y av ey k => ?_, fun y k => ?_, st.apart, fun env he => ?_⟩
  · have own := f.own p hp
    rcases List.mem_append.mp hp with hp | hp
    · exact ⟨b4 _ _ (b2 p (List.mem_append.mpr (.inl hp))), own, f.new p (List.mem_append.mpr (.inl hp))⟩
    · rcases List.mem_append.mp hp with hp | hp
      · exact ⟨b4 _ _ (b2 p (List.mem_append.mpr (.inr hp))), own, f.new p (List.mem_append.mpr (.inr hp))⟩
      · exact ⟨(f.frs p hp).1, own, (f.frs p hp).2⟩
  · obtain ⟨v, e1, e2⟩ := st.loc y av ey k
    exact ⟨v, e1, e2.ext x⟩
  · obtain ⟨c, o, v₀, e1, e2, e3, e4⟩ := st.cell y k
    obtain ⟨s1, h1, _⟩ := x.fr _ e2
    refine ⟨c, _, v₀, e1, h1, e3, fun av ea => ?_⟩
    obtain ⟨v, e5, e6⟩ := e4 av ea
    exact ⟨v, e5, e6.ext x⟩
  · obtain ⟨k1, b, k2, k3⟩ := st.frm env he
    refine ⟨k1, b, k2, ?_⟩
    rcases k3 with rfl | ⟨o, es, nn, f1, f2⟩
    · exact .inl rfl
    · obtain ⟨s1, h1, _⟩ := x.fr _ f1
      exact .inr ⟨_, es, nn, h1, f2⟩

theorem fault_name (ok : G.Ok) (hC : C.Ok n) (st : SS G C ρ σ φ mt im fr m s.heap) {x : Str} {p : Pos} (hx : faultName G.tb ρ x = true) {A : Around} {Q : Value → Shared → Prop} (h : Q lowerFault s) :
    wpAny (model G.prog G.w) A (eval (.Name x p) C.env) Q E s := by
  unfold faultName at hx
  simp only [Bool.and_eq_true, beq_iff_eq, bne_iff_ne, ne_eq] at hx
  obtain ⟨⟨hk, hg⟩, hd⟩ := hx
  have hkind := st.kinds x _ hk
  induction hgl : G.tb.global x using Option.casesOn with
  | none => rw [hgl] at hg; exact (no_ft hg).elim
  | some av =>
    obtain ⟨u, rfl, eu⟩ := ok.glob x av hgl
    rw [hgl] at hg
    have hu : u = lowerFault := by
      induction u using PySem.Value.casesOn with
      | ref a => simp at hg; rw [hg]; rfl
      | _ => exact (no_ft hg).elim
    subst hu
    refine wpAny_Name ?_ (by simpa using hd)
    have hgn : s.heap.Ns C.env.globals G.mg := by rw [hC.glo]; exact ok.Tp.g.keeps st.F.keep
    have hb : s.heap.Ns C.env.builtins G.mb := by rw [hC.bui]; exact ok.Tp.b.keeps st.F.keep
    have go : wpAny (model G.prog G.w) A (loadGlobal C.env x) Q E s := by
      rcases eu with e | ⟨e, e1, e2⟩
      · exact loadGlobal_global hgn (mg_of ok.X ok.Tp.g e) h
      · exact loadGlobal_builtin hgn (mg_none_of ok.X ok.Tp.g e) hb ((ok.Tp.builtins x e2).trans e1) h
    unfold loadName
    have hk2 : C.env.kindOf x = some .globalImplicit := hkind
    simp only [Env.blockKind, hC.kind, hk2, ScopeKind.isAnnotationScope, Bool.false_and, Bool.false_eq_true, if_false]
    exact go

theorem trySim (ok : G.Ok) (hexc : exmOne G.K lowerFault lowerFault = some true) : TrySim G n := by
  intro C ρ σ φ mt im fr m s Q E e x p1 p2 k p3 p4 p5 pos ev hC hE h st hs
  by_cases hx : faultName G.tb ρ x = true
  · rw [if_pos hx] at hs
    have hA : C.A.frames = some (C.fenv :: C.outer) := hC.frames
    refine wpAny_Try_except (wpAny_execs_cons (wpAny_Return_some (h.at_ (ρ := ρ) (m := m) (P := fun _ _ => True) hC e σ φ mt im fr s _ _ trivial st ?_)))
    change SpS G C φ im fr Q E s (match (ev.e e ρ σ).bind fun v => (pure (AFlow.ret v, ρ) : M (AFlow × LEnv)) with
      | .ok x σ' => .ok x σ'
      | .exn σ' => .ok (.ret .none, ρ) σ'
      | .fail => .fail) at hs
    induction ee : ev.e e ρ σ using Res.casesOn with
    | fail => rw [ee] at hs; exact hs
    | ok av σ₁ =>
      rw [ee] at hs
      exact fun φ' mt' im' fr' h' tk' v y st' r => hs φ' mt' im' fr' m h' tk' _ y.toS st' ⟨v, rfl, r⟩
    | exn σ₁ =>
      rw [ee] at hs
      intro φ' mt' im' fr' h' tk' ex y f
      refine fly_note (s := { s with heap := h', toks := tk' }) f hA hC.frm fun h₁ fr₁ x₁ f₁ => ?_
      refine fly_flight (s := { s with heap := h₁, toks := tk' }) f₁ fun h₂ fr₂ x₂ f₂ => ?_
      have y₂ := (y.trans x₁).trans x₂
      have st₂ := f₂.state st y₂
      refine wpAny_handleBy_cons (codeAny_handlers_test (fault_name (s := { s with heap := h₂, toks := tk' }) ok hC st₂ hx ?_)) (by intro q; cases q)
      obtain ⟨B, a0, fl, b1, b2, b3, b4, b5, b6, oe, vs, T, oT, ts, he, hcls, hr⟩ := f₂.out
      have LT : Looks (model G.prog G.w) h₂ (typeOf (.ref ex)) lowerFault := by
        have q : Looks (model G.prog G.w) h₂ (typeOf (.ref ex)) oe.cls := (Looks.ld he).andThen .now
        rw [hcls.1] at q
        exact q
      refine (exm_one (ok.X.keeps st₂.F.keep) LT hexc).here ?_
      rw [if_pos rfl]
      refine codeAny_handlers_suite (fly_flight (s := { s with heap := h₂, toks := tk' }) f₂ fun h₃ fr₃ x₃ f₃ => ?_)
      refine wpAny_execs_cons (wpAny_Return_some (wpAny_Constant_none ?_))
      exact hs φ' mt' im' fr₃ m h₃ tk' _ (y₂.trans x₃).toS (f₃.state st (y₂.trans x₃)) ⟨.none, rfl, rep_none⟩
  · rw [if_neg hx] at hs
    exact hs.elim
end
end Mine
end
section
namespace Mine
open PySem PySem.W PySem.Calls PyProof.Rows

section lf
variable {M : Model} {A : Around} {E : Value → Shared → Prop} {h : Heap} {g : Array GenState} {d : Drawn} {t : Nat} {os : OsState}
variable {nm q : Str} {C N : Addr} {bs bm : List Value} {hdct : Bool} {sn : List Str} {sub : List Value} {ab : Bool} {col : Option Bool} {dd : Option Addr} {k0 k1 k2 k3 k5 : Option Value}

structure LfMro (bm : List Value) : Prop where
  hasB : bm.contains (.type "Exception") = true
  hasBase : bm.contains (.type "BaseException") = true
  noAttr : bm.contains (.type "AttributeError") = false
  noName : bm.contains (.type "NameError") = false

theorem lf_has {X : String} {b : Bool} (hb : bm.contains (.type X) = b) : (Value.ref C :: bm).contains (.type X) = b := by
  rw [List.contains_cons, hb]; rfl

theorem lf_check_new (T : LfMro bm) {rest : List Value} {Q : Unit → Shared → Prop} (hC : h.get? C = some (excClassObj nm q C N bs bm hdct sn sub ab col dd k0 k1 k2 k3 k5 "Exception.__new__"))
    (hq : Q () ⟨h, g, d, t, os⟩) : wpAny M A (checkBuiltinCall "Exception.__new__" ⟨.ref C :: rest, []⟩) Q E ⟨h, g, d, t, os⟩ := by
  have F := PySem.F.excBase_Exception
  have hcont := lf_has (C := C) T.hasB
  have hstar := F.noStar
  simp only [checkBuiltinCall, F.newKind, F.newSplit, F.newRow]
  repeat (first | refine wpAny_loadPart_at hC ?_ | (refine wpAny_isSubtype_exc hC ?_; rw [hcont]) | refine wpAny_staticBase_exc hC ?_ | refine wpAny_madeBy_exc hC ?_ | simp only [bne_self_eq_false, Bool.false_eq_true, if_false] | wp_step)
  exact hq

theorem lf_check_init (T : LfMro bm) {e : Addr} {oe : Obj} {rest : List Value} {Q : Unit → Shared → Prop}
    (hC : h.get? C = some (excClassObj nm q C N bs bm hdct sn sub ab col dd k0 k1 k2 k3 k5 "Exception.__new__")) (he : h.get? e = some oe) (hcls : oe.cls = .ref C) (hq : Q () ⟨h, g, d, t, os⟩) :
    wpAny M A (checkBuiltinCall "Exception.__init__" ⟨.ref e :: rest, []⟩) Q E ⟨h, g, d, t, os⟩ := by
  have F := PySem.F.excBase_Exception
  have hcB := lf_has (C := C) T.hasB
  have hshort := F.noStar
  simp only [checkBuiltinCall, F.initKind, F.initSplit, F.initRow]
  repeat (first | (with_reducible refine wpAny_loadPart_at he ?_; rw [hcls]) | with_reducible refine wpAny_loadPart_at hC ?_ | (with_reducible refine wpAny_isSubtype_exc hC ?_; rw [hcB]) | wp_step)
  refine wpAny_onRaise ?_
  rw [show ∀ (a b : String) (n : Nat), Bind.check ⟨.positional, "*", "Exception", .self, [⟨"args", .varPos, false⟩]⟩ a b n (List.map (fun x => x.fst) ({ pos := Value.ref e :: rest } : Args).kw) = pure () from
    fun a b n => check_star_args _ _ _ _ _ _]
  exact wpAny_pure hq
end lf

section lf2
variable {prog : Program} {w : World} {A : Around} {E : Value → Shared → Prop} {R : Result → Shared → Prop} {h : Heap} {g : Array GenState} {d : Drawn} {t : Nat} {os : OsState}
variable {nm q : Str} {C N : Addr} {bs bm : List Value} {hdct : Bool} {sn : List Str} {sub : List Value} {ab : Bool} {col : Option Bool} {dd : Option Addr} {k0 k1 k2 k3 k5 : Option Value}
noncomputable def lfObj (C t : Addr) (d : Option Addr) : Obj := { cls := .ref C, dict := d, data := .fields #[.ref t, .none, .none, .none, .bool false, .none] }

theorem lf_new0 {B newId initId : String} {bmB : List Value} (F : ExcBaseFacts B newId initId bmB) (hcB : (Value.ref C :: bm).contains (.type B) = true) (hcA : (Value.ref C :: bm).contains (.type "AttributeError") = false) (hcN : (Value.ref C :: bm).contains (.type "NameError") = false) {rest : List Value} (hC : h.get? C = some (excClassObj nm q C N bs bm hdct sn sub ab col dd k0 k1 k2 k3 k5 newId))
    (hq : R (.ok (.ret (.ref (h.objs.size + 1)))) ⟨(h.push { cls := .type "tuple", data := .seq rest.toArray }).push (lfObj C h.objs.size none), g, d, t, os⟩) (hrest : rest.length ≤ sizeLine := by size_fits) :
    codeAny (model prog w) A (.builtin newId ⟨.ref C :: rest, []⟩) R ⟨h, g, d, t, os⟩ := by
  have hends := F.ends
  refine codeAny_builtinAt F.entry ?_
  unfold Builtin.«BaseException.__new__»
  refine PySem.wpAt_bind ?_
  show PySem.wpAt _ _ _ (stack >>= _) _ _ _
  refine PySem.wpAt_bind (PySem.wpAt_stack fun p below => PySem.wpAt_of_wpAny ?_)
  wp_walk
  refine PySem.wpAt_of_wpAny ?_
  rw [F.owner]
  repeat (first | with_reducible refine wpAny_madeHere_exc F.canon hC ?_ | with_reducible refine wpAny_loadPart_at hC ?_ | (with_reducible refine wpAny_isSubtype_exc hC ?_; first | rw [hcB] | rw [hcA] | rw [hcN]) | wp_step)
  show R _ _
  rw [Heap.size_push]
  exact hq

theorem lf_new (T : LfMro bm) {rest : List Value} (hC : h.get? C = some (excClassObj nm q C N bs bm hdct sn sub ab col dd k0 k1 k2 k3 k5 "Exception.__new__"))
    (hq : R (.ok (.ret (.ref (h.objs.size + 1)))) ⟨(h.push { cls := .type "tuple", data := .seq rest.toArray }).push (lfObj C h.objs.size none), g, d, t, os⟩) (hrest : rest.length ≤ sizeLine := by size_fits) :
    codeAny (model prog w) A (.builtin "Exception.__new__" ⟨.ref C :: rest, []⟩) R ⟨h, g, d, t, os⟩ :=
  lf_new0 PySem.F.excBase_Exception (lf_has T.hasB) (lf_has T.noAttr) (lf_has T.noName) hC hq hrest

theorem lf_init (T : LfMro bm) {e t0 : Addr} {dx : Option Addr} {rest : List Value} {Q : Value → Shared → Prop}
    (hC : h.get? C = some (excClassObj nm q C N bs bm hdct sn sub ab col dd k0 k1 k2 k3 k5 "Exception.__new__")) (he : h.get? e = some (lfObj C t0 dx))
    (hq : Q .none ⟨(h.push { cls := .type "tuple", data := .seq rest.toArray }).update e (Obj.mapFields (·.setIfInBounds 0 (.ref h.objs.size))), g, d, t, os⟩) (hrest : rest.length ≤ sizeLine := by size_fits) :
    wpAny (model prog w) A (call (.builtin "Exception.__init__") (.ref e :: rest)) Q E ⟨h, g, d, t, os⟩ := by
  have F := PySem.F.excBase_Exception
  refine wpAny_call (codeAny_call_builtin F.init.plain F.initEntry (lf_check_init T hC he rfl ?_))
  unfold Builtin.«BaseException.__init__»
  dsimp only
  rw [if_neg (by simp)]
  unfold newTuple Builtin.BaseException.bexcPut
  have he₁ := Heap.get?_push_of_some { cls := .type "tuple", data := .seq rest.toArray } he
  refine wpAny_bind (wpAny_newObj_type (wpAny_bind (wpAny_bind (wpAny_field he₁ rfl rfl (wpAny_bind (wpAny_setField he₁ rfl (by simp) ?_))))) (by show rest.toArray.size ≤ sizeLine; rw [List.size_toArray]; exact hrest))
  exact wpAny_letGo (wpAny_pure hq)
end lf2
end Mine
end
section
namespace Mine
open PySem PySem.W PySem.Calls PyProof.Rows PySem.Builtin PySem.Builtin.ObjectAttr

noncomputable abbrev lfTail : List Value := [.ref 39, .type "Exception", .type "BaseException", .type "object"]
theorem lf_mro : LfMro lfTail := ⟨by decide, by decide, by decide, by decide⟩

section
variable {prog : Program} {w : World} {A : Around} {E : Value → Shared → Prop} {h : Heap} {g : Array GenState} {d : Drawn} {t : Nat} {os : OsState} {K : Frag}
variable {nm q : Str} {C N x : Addr} {bs : List Value} {sn : List Str} {sub : List Value} {ab : Bool} {col : Option Bool} {dd : Option Addr} {k0 k1 k2 k3 k5 : Option Value} {mA : Str → Option Value} {name : Str} {v : Value}

noncomputable def LfStored (h : Heap) (x C : Addr) (mA : Str → Option Value) (name : Str) (v : Value) (h' : Heap) : Prop :=
  h'.Inst x C (fun y => if y = name then some v else mA y) ∧
  (∀ b o, b ≠ x → (∀ o₀ dx, h.get? x = some o₀ → o₀.dict = some dx → b ≠ dx) → h.get? b = some o → h'.get? b = some o) ∧
  (∀ o₀, h.get? x = some o₀ → ∃ o₁, h'.get? x = some o₁ ∧ o₁.cls = o₀.cls ∧ o₁.data = o₀.data ∧ ((∃ dx, o₀.dict = some dx ∧ o₁.dict = some dx) ∨ (o₀.dict = none ∧ ∃ dx, o₁.dict = some dx ∧ h.get? dx = none)))

theorem lf_store_entry {tk : Tok} {Q : Fin → Shared → Prop} {ns : List Str} (X : K.In h) (hK : K.lookup C = some (excClassObj nm q C N bs lfTail true sn sub ab col dd k0 k1 k2 k3 k5 "Exception.__new__"))
    (hf : findIn K (.ref C) name = some none) (hxC : x ≠ C) (I : h.Inst x C mA)
    (hq : ∀ h' tk', LfStored h x C mA name v h' → Q (.done (.ret .none)) ⟨h', g, d, tk', os⟩) (hw : Within mA ns) (hsz : ns.length ≤ 10) :
    wpAny (model prog w) A (Builtin.«object.__setattr__» ⟨[.ref x, .str name tk, v], []⟩) Q E ⟨h, g, d, t, os⟩ := by
  have hC := X _ _ hK
  obtain ⟨o, hx, hc, hnc, hd⟩ := I
  have LT : Looks (model prog w) h (typeOf (.ref x)) (.ref C) := by
    have q : Looks (model prog w) h (typeOf (.ref x)) o.cls := (Looks.ld hx).andThen .now
    rwa [hc] at q
  have hpass := PySem.F.store_Exception.passes (.ref x)
  rw [osa_eq, refuse_eq]
  refine wpAny_bind (wpAny_bind (LT.here (wpAny_bind (wpAny_mroOf_exc hC ?_))))
  rw [refuseLoop_ref, refuseLoop_ref, hpass]
  refine wpAny_pure (wpAny_bind (LT.here (wpAny_bind ((looks_findIn X hf).here (wpAny_bind (wpAny_pure ?_))))))
  show wpAny _ _ (storeInOwnDict (.ref x) (.ref C) (.str name tk) name v false) _ _ _
  unfold storeInOwnDict ownDictForStores instanceDict
  refine wpAny_bind (wpAny_pure (wpAny_bind (wpAny_bind (wpAny_loadPart hx ?_))))
  have key : ∀ (dx : Addr) (h₁ : Heap) (tk' : Nat), h₁.Inst x C mA → (∀ o₁, h₁.get? x = some o₁ → o₁.dict = some dx) → (∀ b ob, b ≠ x → h.get? b = some ob → h₁.get? b = some ob) →
      (∃ o₁, h₁.get? x = some o₁ ∧ o₁.cls = o.cls ∧ o₁.data = o.data ∧ o₁.dict = some dx ∧ (o.dict = some dx ∨ (o.dict = none ∧ h.get? dx = none))) →
      wpAny (model prog w) A (storeInDict dx (.str name tk) name v) Q E ⟨h₁, g, d, tk', os⟩ := fun dx h₁ tk' I₁ hdx hk ho => by
    obtain ⟨o₁, hx₁, hc₁, hnc₁, hd₁⟩ := I₁
    have hdd := hdx o₁ hx₁
    rcases hd₁ with ⟨hn, _⟩ | ⟨dx', hdx', hne, hns⟩
    · rw [hdd] at hn; exact (no_sn hn).elim
    · rw [hdd] at hdx'; cases hdx'
      unfold storeInDict newKeyGuard
      refine wpAny_bind (wpAny_pure (wpAny_bind (wpAny_nsSet1 hns fun h' hn' hs => ?_)))
      obtain ⟨oD, esD, epD, hoD, hdD, hcD⟩ := hn'.count (Within.cons name v hw)
      refine wpAny_bind (wpAny_lookBehind hoD (by rw [hdD]; exact pastItsLine_dict (Nat.le_trans hcD (by rw [List.length_cons, sizeLine_eq]; omega))) ?_)
      refine wpAny_pure ?_
      obtain ⟨o₂, hx₂, e1, e2, e3, e4⟩ := ho
      obtain rfl : o₂ = o₁ := Option.some.inj (hx₂.symm.trans hx₁)
      refine hq h' _ ⟨⟨o₂, (hs.2 x hne.symm).trans hx₂, hc₁, hnc₁, .inr ⟨dx, hdd, hne, hn'⟩⟩, fun b ob hbx hbd hb => ?_, fun o₀ h₀ => ?_⟩
      · refine (hs.2 b ?_).trans (hk b ob hbx hb)
        rcases e4 with e4 | ⟨_, e4⟩
        · exact hbd o dx hx e4
        · rintro rfl; rw [hb] at e4; exact (no_sn e4).elim
      · obtain rfl : o = o₀ := Option.some.inj (hx.symm.trans h₀)
        refine ⟨o₂, (hs.2 x hne.symm).trans hx₂, e1, e2, ?_⟩
        rcases e4 with e4 | ⟨e4, e5⟩
        · exact .inl ⟨dx, e4, hdd⟩
        · exact .inr ⟨e4, dx, hdd, e5⟩
  simp only [hc]
  refine wpAny_bind ((looks_clsIn X (C := C) (by unfold clsIn; rw [hK])).here ?_)
  rw [if_neg (by simp)]
  rcases hd with ⟨hdn, hmA⟩ | ⟨dx, hdx, hne, hns⟩
  · rw [hdn]
    dsimp only
    rw [if_neg (by simp [typeHasDict])]
    have hxs : x ≠ h.objs.size := Nat.ne_of_lt (Heap.lt_size hx)
    have hx₁ : (h.push { cls := .type "dict", data := .dict #[] }).get? x = some o := Heap.get?_push_of_some _ hx
    have go : wpAny (model prog w) A (do
        let d ← alloc { cls := .type "dict", data := .dict #[] }
        update x fun o => { o with dict := some d }
        dictMade (.ref C) x d) (fun a s' => wpAny (model prog w) A (match a with | some d => storeInDict d (.str name tk) name v | none => noDictFor (.ref x) (.ref C) name false) Q E s') E ⟨h, g, d, t, os⟩ := by
      refine wpAny_bind (wpAny_alloc' (wpAny_bind (wpAny_update' hx₁ (wpAny_bind (wpAny_pure (wpAny_pure ?_))))))
      have hgx : ((h.push { cls := .type "dict", data := .dict #[] }).update x fun o => { o with dict := some h.objs.size }).get? x = some { o with dict := some h.objs.size } := by
        refine Heap.get?_update_self _ hx₁ ?_
        have hfr := (Heap.get?_some_iff.mp hx).2
        obtain ⟨oc, od, odt, osl⟩ := o
        cases odt <;> first | rfl | exact hfr
      have hgd : ((h.push { cls := .type "dict", data := .dict #[] }).update x fun o => { o with dict := some h.objs.size }).get? h.objs.size = some { cls := .type "dict", data := .dict #[] } :=
        (Heap.get?_update_ne _ _ _ _ hxs.symm).trans (Heap.get?_push_at rfl rfl)
      have hnd : ((h.push { cls := .type "dict", data := .dict #[] }).update x fun o => { o with dict := some h.objs.size }).Ns h.objs.size (fun _ => none) :=
        ⟨_, #[], _, hgd, rfl, fun e he => absurd he (by simp), fun _ => rfl⟩
      have hmA' : mA = fun _ => none := funext hmA
      refine key h.objs.size _ _ ⟨_, hgx, hc, hnc, .inr ⟨h.objs.size, rfl, hxs.symm, by rw [hmA']; exact Heap.Ns1.of_empty hnd⟩⟩ (fun o₁ e => by rw [hgx] at e; cases e; rfl) (fun b ob hb e => (Heap.get?_update_ne _ _ _ _ hb).trans (Heap.get?_push_of_some _ e))
        ⟨_, hgx, rfl, rfl, rfl, .inr ⟨hdn, Heap.get?_none_of_le (Nat.le_refl _)⟩⟩
    rw [← hc] at go ⊢
    obtain ⟨oc, od, odt, osl⟩ := o
    cases odt <;> first | exact go | exact absurd rfl (hnc _)
  · rw [hdx]
    refine wpAny_pure ?_
    exact key dx h t ⟨o, hx, hc, hnc, .inr ⟨dx, hdx, hne, hns⟩⟩ (fun o₁ e => by rw [hx] at e; cases e; exact hdx) (fun _ _ _ e => e) ⟨o, hx, rfl, rfl, hdx, .inl hdx⟩
end
end Mine
end
section
namespace Mine
open PySem PySem.W PySem.Calls PyProof.Rows PySem.Builtin PySem.Builtin.ObjectAttr

section
variable {prog : Program} {w : World} {A : Around} {E : Value → Shared → Prop} {h : Heap} {g : Array GenState} {d : Drawn} {t : Nat} {os : OsState} {K : Frag}
variable {nm q : Str} {C N x : Addr} {bs : List Value} {sn : List Str} {sub : List Value} {ab : Bool} {col : Option Bool} {dd : Option Addr} {k0 k1 k2 k3 k5 : Option Value} {mA : Str → Option Value} {name : Str} {v : Value}

theorem lf_setattr {Q : Unit → Shared → Prop} {ns : List Str} (X : K.In h) (hK : K.lookup C = some (excClassObj nm q C N bs lfTail true sn sub ab col dd k0 k1 k2 k3 k5 "Exception.__new__"))
    (hs : findIn K (.ref C) "__setattr__" = some (some (.builtin "object.__setattr__"))) (hf : findIn K (.ref C) name = some none) (hxC : x ≠ C) (I : h.Inst x C mA)
    (hq : ∀ h' tk', LfStored h x C mA name v h' → Q () ⟨h', g, d, tk', os⟩) (hw : Within mA ns) (hsz : ns.length ≤ 10) :
    wpAny (model prog w) A (setAttr (.ref x) name v) Q E ⟨h, g, d, t, os⟩ := by
  have SF := PySem.F.store_object
  obtain ⟨o, hx, hc, hnc, hd⟩ := id I
  have LT : Looks (model prog w) h (typeOf (.ref x)) (.ref C) := by
    have q : Looks (model prog w) h (typeOf (.ref x)) o.cls := (Looks.ld hx).andThen .now
    rwa [hc] at q
  have sub : Looks (model prog w) h (isInstance (.ref x) (.type "object")) true := LT.andThen (looks_mroIn X (by unfold mroIn clsIn; rw [hK]; rfl))
  refine wpAny_bind (wpAny_mkText (wpAny_bind (wpAny_bind (wpAny_bind (LT _ _ _ _ (fun _ _ e => e) (looks_findIn X hs _ _ _ _ (fun _ _ e => e) (wpAny_holding ?_)))))))
  rw [SF.slot.bind]
  refine wpAny_bind (wpAny_pure (wpAny_bind (wpAny_call ?_)))
  refine codeAny_call_builtin SF.slot.plain SF.entry (@check_slot (model prog w) _ _ _ "object.__setattr__" "object" "__setattr__" (.ref x) _ [] _ SF.kind SF.split sub (SF.args (.ref x) _ v) ?_)
  exact lf_store_entry X hK hf hxC I (fun h' tk' st => wpAny_pure (wpAny_pure (hq h' tk' st))) hw hsz
end

inductive LfBody (b : List Stmt) : Prop
  | mk (p1 p2 p3 p4 p5 p6 p7 p8 p9 p10 p11 p12 p13 p14 : Pos) (hb : b = [
    .Expr (.Call (.Attribute (.Name "Exception" p1) "__init__" p2) [.Name "self" p3, .Name "message" p4] [] p5) p6,
    .Assign [.Attribute (.Name "self" p7) "message" p8] (.Name "message" p9) p10,
    .Assign [.Attribute (.Name "self" p11) "spot" p12] (.Name "spot" p13) p14]) (hl : (p2.endLine == p5.line) = true) : LfBody b
inductive LfCls (K : Frag) : Prop
  | mk (nm q N bs sn sub ab col dd k0 k1 k2 k3 k5 : _) (h : K.lookup 52 = some (excClassObj nm q 52 N bs lfTail true sn sub ab col dd k0 k1 k2 k3 k5 "Exception.__new__")) : LfCls K
inductive LfFun (K : Frag) : Prop
  | mk (oc od osl : _) (fd : FuncData) (b : List Stmt) (T : Addr) (oT : Obj) (n : _) (k : Value → Value → Option (Array Value) → Sem (List (Str × Value))) (hlk : K.lookup 36 = some ⟨oc, od, .func fd, osl⟩) (hbody : fd.body = .stmts b) (hb : LfBody b) (hgl : fd.globals = mainGlobals) (hbu : fd.builtins = builtinsNs) (hcode : codeIn K fd.code fd.qualname = true)
    (hkind : fd.scope.kind = .function) (hgen : fd.scope.isGenerator = false) (hco : fd.scope.isCoroutine = false) (hncell : ∀ p ∈ fd.scope.names, p.2 ≠ .cell) (l1 : fd.scope.names.lookup ("self" : Str) = some .local) (l2 : fd.scope.names.lookup ("message" : Str) = some .local) (l3 : fd.scope.names.lookup ("spot" : Str) = some .local)
    (l4 : fd.scope.names.lookup ("Exception" : Str) = some .globalImplicit) (hd : fd.defaults = .ref T) (hT : K.lookup T = some oT) (hTd : oT.data = .seq #[.none] n)
    (hbind : ∀ x v : Value, PySem.bindArgs fd ⟨[x, v], []⟩ = seqItems? fd.defaults >>= k x v ∧ k x v (some #[.none]) = pure [(("self" : Str), x), (("message" : Str), v), (("spot" : Str), .none)]) : LfFun K

structure LfOk (G : Gd) : Prop where
  cls : LfCls G.K
  sa : findIn G.K (.ref 52) "__setattr__" = some (some (.builtin "object.__setattr__"))
  ini : findIn G.K (.ref 52) "__init__" = some (some (.ref 36))
  msg : findIn G.K (.ref 52) "message" = some none
  spot : findIn G.K (.ref 52) "spot" = some none
  fn : isFn G.K (.ref 36) = true
  top : nsIn G.K mainGlobals "Exception" = some none ∧ bootBuiltins "Exception" = some (.type "Exception")
  fun_ : LfFun G.K

theorem lf_body {G : Gd} (ok : G.Ok) (lf : LfOk G) {env : Env} {A : Around} {Q : Flow → Shared → Prop} {E : Value → Shared → Prop} {s : Shared} {m : Str → Option Value} {x t0 : Addr} {v : Value} {b : List Stmt} (hbody : LfBody b)
    (hk : env.scope.kind = .function) (k1 : env.kindOf "self" = some .local) (k2 : env.kindOf "message" = some .local) (k3 : env.kindOf "spot" = some .local) (k4 : env.kindOf "Exception" = some .globalImplicit)
    (hg : env.globals = mainGlobals) (hb : env.builtins = builtinsNs) (F : Fr G.hb env.locals s.heap m) (m1 : m "self" = some (.ref x)) (m2 : m "message" = some v) (m3 : m "spot" = some .none)
    (hx : s.heap.get? x = some (lfObj 52 t0 none)) (hxL : x ≠ env.locals) (hxB : G.hb.get? x = none)
    (h : ∀ h' tk' o vs t, (∀ b ob, b ≠ x → s.heap.get? b = some ob → h'.get? b = some ob) → h'.get? x = some o → o.cls = .ref 52 → o.data = .fields vs → vs[1]? = some .none → vs[0]? = some t → Q .next { s with heap := h', toks := tk' }) :
    wpAny (model G.prog G.w) A (execs b env) Q E s := by
  obtain ⟨p1, p2, p3, p4, p5, p6, p7, p8, p9, p10, p11, p12, p13, p14, rfl, hl⟩ := hbody
  obtain ⟨nm, q, N, bs, sn, sub, ab, col, dd, c0, c1, c2, c3, c5, hC⟩ := lf.cls
  obtain ⟨hh, g, d, t, os⟩ := s
  have hxC : x ≠ 52 := by
    rintro rfl
    have := ok.X _ _ hC
    rw [this] at hxB; exact (no_sn hxB).elim
  have X := ok.X.keeps F.keep
  have name : ∀ {h₁ : Heap} {tk : Nat} {y : Str} {p : Pos} {u : Value} {Q : Value → Shared → Prop}, h₁.Ns env.locals m → env.kindOf y = some .local → m y = some u → (y == ("__debug__" : Str)) = false → Q u ⟨h₁, g, d, tk, os⟩ →
      wpAny (model G.prog G.w) A (eval (.Name y p) env) Q E ⟨h₁, g, d, tk, os⟩ := fun ns e1 e2 e3 hq => wpAny_Name (wpAny_loadName_local hk e1 ns e2 hq) e3
  refine wpAny_execs_cons ?_
  rw [exec_Expr env _ _ (by unfold interactive; rw [hk]; rfl) rfl]
  refine wpAny_bind (wpAny_standAt (wpAny_bind ?_))
  rw [arm_eval_Call, attributeBase_ok rfl]
  refine wpAny_bind (wpAny_Name ?_ rfl)
  have hgn : hh.Ns env.globals G.mg := by rw [hg]; exact ok.Tp.g.keeps F.keep
  have hbn : hh.Ns env.builtins G.mb := by rw [hb]; exact ok.Tp.b.keeps F.keep
  unfold loadName
  simp only [Env.blockKind, hk, k4, ScopeKind.isAnnotationScope, Bool.false_and, Bool.false_eq_true, if_false]
  refine loadGlobal_builtin hgn (mg_none_of ok.X ok.Tp.g lf.top.1) hbn ((ok.Tp.builtins "Exception" (by decide)).trans lf.top.2) ?_
  refine wpAny_bind (wpAny_standAt ?_)
  unfold methodCall
  have hform : methodCallForm ([(Expr.Name "self" p3), .Name "message" p4].length + ([] : List Keyword).length) (backTo p5 (starEach [.Name "self" p3, .Name "message" p4] env)) (backToKw p5 (keywordEach [] env)) = true := rfl
  rw [hform]
  have epos : methodCallPos true (.Name "Exception" p1) env p2 p5 = pure p5 := by
    unfold methodCallPos
    rw [hl]; rfl
  refine wpAny_bind (wpAny_holding (method_type (v := .builtin "Exception.__init__") (s := ⟨hh, g, d, t, os⟩) F ok.X rfl (by decide +kernel) (by kernel_rfl) (by decide +kernel) ?_))
  dsimp only
  rw [epos]
  refine wpAny_bind (wpAny_pure ?_)
  show wpAny _ _ (callWith p5 (.builtin "Exception.__init__") [] (backTo p5 (starEach [.Name "self" p3, .Name "message" p4] env)) []) _ _ _
  have hargs : ∀ {Q : List Value → Shared → Prop}, Q [.ref x, v] ⟨hh, g, d, t + 1, os⟩ → wpAny (model G.prog G.w) A (spliced (backTo p5 (starEach [.Name "self" p3, .Name "message" p4] env))) Q E ⟨hh, g, d, t + 1, os⟩ := fun hq =>
    spliced_cons (name F.ns k1 m1 rfl (spliced_cons (name F.ns k2 m2 rfl (spliced_nil hq))))
  refine callWith_of (P := fun h => h = hh) (by rfl) (fun _ _ => keep_machine fun a e => by cases e) (evalArgs_plain (hargs ?_))
  refine ⟨rfl, ?_⟩
  have hC' := X _ _ hC
  refine lf_init lf_mro hC' hx ?_ (by show 1 ≤ _; rw [sizeLine_eq]; omega)
  have hx1 : (hh.push { cls := .type "tuple", data := .seq [v].toArray }).get? x = some (lfObj 52 t0 none) := Heap.get?_push_of_some _ hx
  have other : ∀ b ob, b ≠ x → hh.get? b = some ob → ((hh.push { cls := .type "tuple", data := .seq [v].toArray }).update x (Obj.mapFields (·.setIfInBounds 0 (.ref hh.objs.size)))).get? b = some ob := fun b ob hb e =>
    (Heap.get?_update_ne _ _ _ _ hb).trans (Heap.get?_push_of_some _ e)
  have own : ((hh.push { cls := .type "tuple", data := .seq [v].toArray }).update x (Obj.mapFields (·.setIfInBounds 0 (.ref hh.objs.size)))).get? x = some (lfObj 52 hh.objs.size none) :=
    Heap.get?_update_self _ hx1 rfl
  generalize (hh.push { cls := .type "tuple", data := .seq [v].toArray }).update x (Obj.mapFields (·.setIfInBounds 0 (.ref hh.objs.size))) = h1 at other own ⊢
  refine wpAny_dropValue ?_
  have keep1 : ∀ b ob, G.hb.get? b = some ob → h1.get? b = some ob := fun b ob e => other b ob (by rintro rfl; rw [e] at hxB; exact (no_sn hxB).elim) (F.keep _ _ e)
  have ns1 : h1.Ns env.locals m := by
    obtain ⟨oD, es, ep, e1, e2⟩ := F.ns
    exact ⟨oD, es, ep, other _ _ (Ne.symm hxL) e1, e2⟩
  refine wpAny_execs_cons (plainObj_wpAny_Assign_Attribute ?_)
  refine name ns1 k2 m2 rfl (name ns1 k1 m1 rfl ?_)
  have inst1 : h1.Inst x 52 (fun _ => none) := ⟨_, own, rfl, (fun c e => by cases e), .inl ⟨rfl, fun _ => rfl⟩⟩
  refine lf_setattr (ns := []) (ok.X.keeps keep1) hC lf.sa lf.msg hxC inst1 (fun h2 tk2 st2 => ?_) Within.nil (by decide)
  obtain ⟨i2, keep2, obj2⟩ := st2
  obtain ⟨o2, hx2, c2, d2, r2⟩ := obj2 _ own
  have r2 : ∃ dx, o2.dict = some dx ∧ h1.get? dx = none := by
    rcases r2 with ⟨dx, e, _⟩ | ⟨_, r⟩
    · exact (no_ns e).elim
    · exact r
  obtain ⟨dx, e2, f2⟩ := r2
  have other2 : ∀ b ob, b ≠ x → h1.get? b = some ob → h2.get? b = some ob := fun b ob hb e => keep2 b ob hb (fun o₀ dx' e1 e3 => by rw [own] at e1; cases e1; exact (no_ns e3).elim) e
  have keepB2 : ∀ b ob, G.hb.get? b = some ob → h2.get? b = some ob := fun b ob e => other2 b ob (by rintro rfl; rw [e] at hxB; exact (no_sn hxB).elim) (keep1 _ _ e)
  have ns2 : h2.Ns env.locals m := by
    obtain ⟨oD, es, ep, e1, e2⟩ := ns1
    exact ⟨oD, es, ep, other2 _ _ (Ne.symm hxL) e1, e2⟩
  refine wpAny_execs_cons (plainObj_wpAny_Assign_Attribute ?_)
  refine name ns2 k3 m3 rfl (name ns2 k1 m1 rfl ?_)
  refine lf_setattr (ns := ["message"]) (ok.X.keeps keepB2) hC lf.sa lf.spot hxC i2 (fun h3 tk3 st3 => ?_) (Within.cons _ _ Within.nil) (by decide)
  obtain ⟨i3, keep3, obj3⟩ := st3
  obtain ⟨o3, hx3, c3', d3, _⟩ := obj3 _ hx2
  refine wpAny_execs_nil ?_
  refine h h3 tk3 o3 _ (.ref hh.objs.size) (fun b ob hb e => ?_) hx3 (c3'.trans c2) (d3.trans d2) rfl rfl
  have e1 := other b ob hb e
  refine keep3 b ob hb (fun o₀ dx' q1 q2 => ?_) (other2 b ob hb e1)
  rw [hx2] at q1; cases q1
  rw [e2] at q2; cases q2
  rintro rfl
  rw [e1] at f2; exact (no_sn f2).elim
end Mine
end
section
namespace Mine
open PySem PySem.W PySem.Calls PyProof.Rows

section
variable {prog : Program} {w : World} {A : Around} {E : Value → Shared → Prop} {h : Heap} {g : Array GenState} {d : Drawn} {t : Nat} {os : OsState} {K : Frag}
variable {nm q : Str} {C N x : Addr} {bs : List Value} {sn : List Str} {sub : List Value} {ab : Bool} {col : Option Bool} {dd : Option Addr} {k0 k1 k2 k3 k5 : Option Value}

noncomputable def lfHeap (h : Heap) (C : Addr) (rest : List Value) : Heap := (h.push { cls := .type "tuple", data := .seq rest.toArray }).push (lfObj C h.objs.size none)

theorem lf_type_call {rest : List Value} {f : Addr} {Q : Fin → Shared → Prop} (X : K.In h) (hK : K.lookup C = some (excClassObj nm q C N bs lfTail true sn sub ab col dd k0 k1 k2 k3 k5 "Exception.__new__"))
    (hi : findIn K (.ref C) "__init__" = some (some (.ref f))) (hf : typeIn K (.ref f) = some (.type "function")) (hrest : rest.length ≤ sizeLine)
    (hcall : wpAny (model prog w) A (call (.ref f) (.ref (h.objs.size + 1) :: rest)) (fun r s' => r = .none ∧ Q (.done (.ret (.ref (h.objs.size + 1)))) s') E ⟨lfHeap h C rest, g, d, t, os⟩) :
    wpAny (model prog w) A (Builtin.«type.__call__» ⟨.ref C :: rest, []⟩) Q E ⟨h, g, d, t, os⟩ := by
  have F := PySem.F.excBase_Exception
  have hC := X _ _ hK
  repeat (first | with_reducible refine wpAny_loadPart_at hC ?_ | with_reducible refine wpAny_madeBy_exc hC ?_ | wp_step)
  refine codeAny_call_builtin_code (Code.quiet_builtin _ F.quiet) (lf_check_new lf_mro hC ?_)
  refine lf_new lf_mro hC ?_ hrest
  show wpAny _ _ _ _ _ _
  have hC₁ : (lfHeap h C rest).get? C = _ := Heap.get?_push_of_some (lfObj C h.objs.size none) (Heap.get?_push_of_some { cls := .type "tuple", data := .seq rest.toArray } hC)
  have X₁ : K.In (lfHeap h C rest) := X.keeps fun b o e => Heap.get?_push_of_some _ (Heap.get?_push_of_some _ e)
  have hget : (lfHeap h C rest).get? (h.objs.size + 1) = some (lfObj C h.objs.size none) := Heap.get?_push_at (by rw [Heap.size_push]) rfl
  have hcC : (Value.ref C :: lfTail).contains (.ref C) = true := by simp
  change wpAny _ _ _ _ _ ⟨lfHeap h C rest, g, d, t, os⟩
  have LT : Looks (model prog w) (lfHeap h C rest) (typeOf (.ref (h.objs.size + 1))) (.ref C) := (Looks.ld hget).andThen .now
  have LS : Looks (model prog w) (lfHeap h C rest) (isSubtype (.ref C) (.ref C)) true := looks_mroIn X₁ (by unfold mroIn clsIn; rw [hK]; simp)
  unfold isInstance
  refine wpAny_bind (wpAny_bind (LT.here (LS.here ?_)))
  rw [if_neg (by simp)]
  refine wpAny_bind (wpAny_holding ?_)
  have I : InstAt (lfHeap h C rest) (h.objs.size + 1) (lfObj C h.objs.size none) C none := ⟨hget, rfl, rfl, trivial⟩
  refine special_fn (s := ⟨lfHeap h C rest, g, d, t, os⟩) (args := rest) X₁ I hi hf (wpAny_mono hcall (fun r s' z => ?_) fun _ _ z => z)
  obtain ⟨rfl, z⟩ := z
  exact wpAny_pure z

theorem lf_call {rest : List Value} {f : Addr} {Q : Value → Shared → Prop} (X : K.In h) (hK : K.lookup C = some (excClassObj nm q C N bs lfTail true sn sub ab col dd k0 k1 k2 k3 k5 "Exception.__new__"))
    (hi : findIn K (.ref C) "__init__" = some (some (.ref f))) (hf : typeIn K (.ref f) = some (.type "function")) (hrest : rest.length ≤ sizeLine)
    (hcall : wpAny (model prog w) (A.under (.builtin "type.__call__" ⟨.ref C :: rest, []⟩)) (call (.ref f) (.ref (h.objs.size + 1) :: rest)) (fun r s' => r = .none ∧ Q (.ref (h.objs.size + 1)) s') E ⟨lfHeap h C rest, g, d, t, os⟩) :
    wpAny (model prog w) A (call (.ref C) rest) Q E ⟨h, g, d, t, os⟩ := by
  have hC := X _ _ hK
  have f1 := tc_lookup
  have f2 := tc_bind (.ref C)
  have hT : (⟨h, g, d, t, os⟩ : Shared).TypeIs (.ref C) "type" := ⟨_, hC, rfl⟩
  refine wpAny_call (codeAny_of_tree ?_)
  show wpAny _ _ (callAny (.ref C) _) _ _ _
  repeat (any_goals (first | assumption | with_reducible refine wpAny_loadPart_at hC ?_ | wp_step))
  refine ⟨rfl, ?_⟩
  refine codeAny_call_builtin_at (Code.quiet_builtin _ (by decide +kernel)) entry_typeCall (wpAny_check_type_call_sub hC (lf_type_call X hK hi hf hrest ?_))
  exact hcall
end
end Mine
end
section
namespace Mine
open PySem PySem.W PySem.Calls PyProof.Rows

section
variable {M : Model} {A : Around} {E : Value → Shared → Prop} {env : Env} {K : Frag}
variable {nm q : Str} {C N : Addr} {bs : List Value} {sn : List Str} {sub : List Value} {ab : Bool} {col : Option Bool} {dd : Option Addr} {k0 k1 k2 k3 k5 : Option Value}
theorem lf_raiseStmt {s : Shared} {x : Sem Value} {Q : Flow → Shared → Prop} (hh : A.handled = none) 
    (h : wpAny M A x (fun v s₁ => ∃ e o vs, v = .ref e ∧ s₁.heap.get? C = some (excClassObj nm q C N bs lfTail true sn sub ab col dd k0 k1 k2 k3 k5 "Exception.__new__") ∧
      s₁.heap.get? e = some o ∧ o.cls = .ref C ∧ o.data = .fields vs ∧ vs[1]? = some .none ∧ E (.ref e) s₁) E s) :
    wpAny M A (raiseStmt env (some x) none) Q E s := by
  have hcB : (Value.ref C :: lfTail).contains (.type "BaseException") = true := by rw [List.contains_cons, lf_mro.hasBase, Bool.or_true]
  unfold raiseStmt
  refine wpAny_bind (wpAny_mono h (fun v s₁ h₁ => ?_) fun _ _ x => x)
  obtain ⟨e, o, vs, rfl, hC, he, hcls, hd, h1, hE⟩ := h₁
  obtain ⟨hp, g, d, tk, os⟩ := s₁
  repeat (first | (with_reducible refine wpAny_loadPart_at he ?_; rw [hcls]) | with_reducible refine wpAny_loadPart_at hC ?_ | (with_reducible refine wpAny_isSubtype_exc hC ?_; rw [hcB]) | wp_step)
  rw [hd]
  refine wpAny_pure ?_
  rw [h1]
  refine wpAny_pure ?_
  rw [if_neg (by simp)]
  exact wpAny_pure (wpAny_raiseNew_none hh hE)
end

section
variable {G : Gd} {C : Act} {ρ : LEnv} {σ : AHeap} {φ : Ids} {mt im fr : Ledger} {m : Str → Option Value} {h h' : Heap} {n : Nat} {e : Addr}

theorem SS.flyN (st : SS G C ρ σ φ mt im fr m h) {oe : Obj} {vs : Array Value} {a0 : Value} (hk : ∀ b o, h.get? b = some o → h'.get? b = some o) (he : h'.get? e = some oe) (hn : h.get? e = none) (hc : oe.cls = lowerFault) (hd : oe.data = .fields vs)
    (h1 : vs[1]? = some .none) (h0 : vs[0]? = some a0) : FlyN G C σ φ mt im fr m e h' := by
  obtain ⟨oL, es, ep, gL, dL, rest⟩ := st.F.ns
  have inB : ∀ {b : Addr} {o : Obj}, h.get? b = some o → (∀ env ∈ C.fenv :: C.outer, ∀ a, env.frame = some a → a = b → False) → (hideAll h ((C.fenv :: C.outer).filterMap (·.frame))).get? b = some o := fun q hn => hideAll_get _ q fun hm => by
    obtain ⟨env, he, ha⟩ := List.mem_filterMap.mp hm
    exact hn env he _ ha rfl
  have frames : ∀ env ∈ C.fenv :: C.outer, ∃ b, env.frame = some b ∧ (b = C.env.locals ∨ ∃ o es n, (b, o) ∈ fr ∧ o.data = .dict es n) := fun env he => (st.frm env he).2
  have sub : (hideAll h ((C.fenv :: C.outer).filterMap (·.frame))).StaysIn h' := fun b o q => hk b o (of_hideAll _ q)
  refine ⟨?_, st.F.above, ⟨hideAll h ((C.fenv :: C.outer).filterMap (·.frame)), a0, oe, vs, fun b o q => ?_, fun q hq => ?_, fun q hq hl => ?_, sub, ?_, ?_, he, hc, hd, h1, h0⟩, fun q hq => ?_, fun q hq => ?_, fun q hq => (st.N q hq).2.1, st.nd, st.sep, st.sepf, st.imk, st.frd, st.hp⟩
  · exact ⟨oL, es, ep, hk _ _ gL, dL, rest⟩
  · refine inB (st.F.keep _ _ q) fun env he a ha hab => ?_
    obtain ⟨b', hb', r⟩ := frames env he
    rw [ha] at hb'; cases hb'; subst hab
    rcases r with rfl | ⟨o', es', n', m1, m2⟩
    · exact absurd (Heap.lt_size q) (Nat.not_lt.mpr st.F.above)
    · have := (st.N _ (List.mem_append.mpr (.inr (List.mem_append.mpr (.inr m1))))).2.2
      rw [q] at this; cases this
  · have hq' : q ∈ mt ++ (im ++ fr) := by
      rcases List.mem_append.mp hq with hq | hq
      · exact List.mem_append.mpr (.inl hq)
      · exact List.mem_append.mpr (.inr (List.mem_append.mpr (.inl hq)))
    refine inB (st.N q hq').1 fun env he a ha hab => ?_
    obtain ⟨b', hb', r⟩ := frames env he
    rw [ha] at hb'; cases hb'; subst hab
    rcases r with e1 | ⟨o', es', n', m1, m2⟩
    · exact (st.N q hq').2.1 e1
    · rcases List.mem_append.mp hq with hq | hq
      · exact st.sep q hq _ (List.mem_append.mpr (.inr m1)) rfl
      · exact st.sepf q hq _ m1 rfl
  · have hq' : q ∈ mt ++ (im ++ fr) := List.mem_append.mpr (.inr (List.mem_append.mpr (.inr hq)))
    refine inB (st.N q hq').1 fun env he a ha hab => ?_
    obtain ⟨b', hb', r⟩ := frames env he
    rw [ha] at hb'; cases hb'; subst hab
    rcases r with e1 | ⟨o', es', n', m1, m2⟩
    · exact (st.N q hq').2.1 e1
    · have g1 := (st.N q hq').1
      have g2 := st.frIn m1
      dsimp only at g2
      rw [g1] at g2
      cases g2
      obtain ⟨_, vs', n'', e3⟩ := hl
      rw [e3] at m2; cases m2
  · induction q : (hideAll h ((C.fenv :: C.outer).filterMap (·.frame))).get? e using Option.casesOn with
    | none => rfl
    | some o => rw [of_hideAll _ q] at hn; cases hn
  · have go : ∀ l : List Env, (∀ env ∈ l, env ∈ C.fenv :: C.outer) → h'.FunFrames (hideAll h ((C.fenv :: C.outer).filterMap (·.frame))) l := by
      intro l
      induction l with
      | nil => exact fun _ => trivial
      | cons env r ih =>
        intro hl
        have hm := hl env (.head _)
        obtain ⟨kd, b, hb, r'⟩ := st.frm env hm
        have hnone := hideAll_none ((C.fenv :: C.outer).filterMap (·.frame)) (h := h) (List.mem_filterMap.mpr ⟨env, hm, hb⟩)
        refine ⟨kd, ?_, ih fun x hx => hl x (.tail _ hx)⟩
        rcases r' with rfl | ⟨o, es', n', m1, m2⟩
        · exact ⟨_, oL, hb, hnone, hk _ _ gL, fun vs q => by rw [dL] at q; cases q⟩
        · exact ⟨b, o, hb, hnone, hk _ _ (st.frIn m1), fun vs q => by rw [m2] at q; cases q⟩
    exact go _ fun _ h => h
  · exact ⟨hk _ _ (st.frIn hq), (st.N q (List.mem_append.mpr (.inr (List.mem_append.mpr (.inr hq))))).2.2⟩
  · refine (st.N q ?_).2.2
    rcases List.mem_append.mp hq with hq | hq
    · exact List.mem_append.mpr (.inl hq)
    · exact List.mem_append.mpr (.inr (List.mem_append.mpr (.inl hq)))
end
end Mine
end
section
namespace Mine
open PySem PySem.W PySem.Calls PyProof.Rows

section
variable {G : Gd} {C : Act} {ρ : LEnv} {σ : AHeap} {φ : Ids} {mt im fr : Ledger} {m : Str → Option Value} {h h' : Heap} {n : Nat}

theorem lf_made (ok : G.Ok) (lf : LfOk G) (hC : C.Ok n) {s : Shared} (st : SS G C ρ σ φ mt im fr m s.heap) {v : Value} {Q : Value → Shared → Prop} {E : Value → Shared → Prop}
    (h : ∀ e h' tk' o vs t, (∀ b ob, s.heap.get? b = some ob → h'.get? b = some ob) → s.heap.get? e = none → h'.get? e = some o → o.cls = .ref 52 → o.data = .fields vs → vs[1]? = some .none → vs[0]? = some t → Q (.ref e) { s with heap := h', toks := tk' }) :
    wpAny (model G.prog G.w) C.A (call lowerFault [v]) Q E s := by
  obtain ⟨nm, q, N, bs, sn, sub, ab, col, dd, c0, c1, c2, c3, c5, hK⟩ := lf.cls
  obtain ⟨oc, od, osl, fd, b, T, oT, nn, k, hlk, hbody, hb, hgl, hbu, hcode, hkind, hgen, hco, hncell, l1, l2, l3, l4, hd, hT, hTd, hbind⟩ := lf.fun_
  obtain ⟨hh, g, d, t, os⟩ := s
  have X := ok.X.keeps st.F.keep
  have hLt : G.hb.objs.size < hh.objs.size := by
    obtain ⟨oL, es, ep, gL, _⟩ := st.F.ns
    exact Nat.lt_of_le_of_lt st.F.above (Heap.lt_size gL)
  obtain ⟨u1, u2, u3, u4⟩ := under_type (A := C.A) (a := 52) (vs := [v])
  refine lf_call X hK lf.ini (beq_iff_eq.mp lf.fn) (by show 1 ≤ _; rw [sizeLine_eq]; omega) ?_
  have keep1 : ∀ b o, hh.get? b = some o → (lfHeap hh 52 [v]).get? b = some o := fun b o e => Heap.get?_push_of_some _ (Heap.get?_push_of_some _ e)
  have hsz : (lfHeap hh 52 [v]).objs.size = hh.objs.size + 2 := by unfold lfHeap; rw [Heap.size_push, Heap.size_push]
  have hget : (lfHeap hh 52 [v]).get? (hh.objs.size + 1) = some (lfObj 52 hh.objs.size none) := Heap.get?_push_at (by rw [Heap.size_push]) rfl
  have X₁ : G.K.In (lfHeap hh 52 [v]) := X.keeps keep1
  have Tp₁ := ok.Tp.keeps fun b o e => keep1 b o (st.F.keep b o e)
  obtain ⟨hb1, hb2⟩ := hbind (.ref (hh.objs.size + 1)) v
  refine wpAny_call (codeAny_call_def (fd := fd) (body := b) (binds := [(("self" : Str), .ref (hh.objs.size + 1)), (("message" : Str), v), (("spot" : Str), .none)]) ?_ (X₁ _ _ hlk) rfl Tp₁.nolimit (codeRec_of X₁ hcode) hbody
    (BindsTo.of_defaults hd (X₁ _ _ hT) hTd hb1 hb2) hncell ?_ (fun h₀ hns hk => ?_) hco hgen hkind)
  · rw [u3]; have := hC.depth; omega
  · intro x hx
    simp only [List.mem_cons, List.not_mem_nil, or_false] at hx
    rcases hx with rfl | rfl | rfl
    · exact l1
    · exact l2
    · exact l3
  · refine lf_body ok lf (env := callEnv fd (lfHeap hh 52 [v]).objs.size 36) (x := hh.objs.size + 1) (t0 := hh.objs.size) (v := v) (m := fun x => List.lookup x [(("self" : Str), Value.ref (hh.objs.size + 1)), (("message" : Str), v), (("spot" : Str), .none)].reverse)
      hb hkind l1 l2 l3 l4 hgl hbu ⟨hns, fun b o e => hk b o (keep1 b o (st.F.keep b o e)), ?_⟩ rfl rfl rfl (hk _ _ hget) ?_ ?_ fun h' tk' o vs t kk g1 g2 g3 g4 g5 => ?_
    · show G.hb.objs.size ≤ (lfHeap hh 52 [v]).objs.size
      omega
    · show hh.objs.size + 1 ≠ (lfHeap hh 52 [v]).objs.size
      omega
    · refine Heap.get?_none_of_le ?_
      omega
    · refine ⟨rfl, ?_⟩
      refine h _ h' tk' o vs t (fun b ob e => kk b ob ?_ (hk _ _ (keep1 _ _ e))) (Heap.get?_none_of_le (Nat.le_succ _)) g1 g2 g3 g4 g5
      exact Nat.ne_of_lt (Nat.lt_succ_of_lt (Heap.lt_size e))

theorem raiseSim (ok : G.Ok) (lf : LfOk G) : RaiseSim G n := by
  intro C ρ σ φ mt im fr m s Q E a x p cp pos ev hC hev st hs
  by_cases hx : (faultName G.tb ρ x && okE a) = true
  · rw [if_pos hx] at hs
    simp only [Bool.and_eq_true] at hx
    obtain ⟨hx, ha⟩ := hx
    obtain ⟨nm, q, N, bs, sn, sub, ab, col, dd, c0, c1, c2, c3, c5, hK⟩ := lf.cls
    rw [arm_exec_Raise]
    refine wpAny_bind (wpAny_standAt ?_)
    refine lf_raiseStmt (C := 52) (nm := nm) (q := q) (N := N) (bs := bs) (sn := sn) (sub := sub) (ab := ab) (col := col) (dd := dd) (k0 := c0) (k1 := c1) (k2 := c2) (k3 := c3) (k5 := c5) hC.hd ?_
    refine wpAny_bind ?_
    rw [arm_eval_Call_Name']
    refine wpAny_bind (fault_name ok hC st hx ?_)
    have hall : [a].all okE = true := by simp [ha]
    refine callWith_of (P := fun h => G.hb.StaysIn h) (by rw [args_plain hall]; rfl) (fun h sth => ?_) ?_
    · refine ⟨.machine, .inr (.inl rfl), ?_⟩
      have X := ok.X.keeps sth
      exact fun A Q E s e hq => wpAny_keeperOf_exc (e _ _ (X _ _ hK)) hq
    · refine sm_evalArgs (P := fun _ _ => True) hev.e hC (fun _ _ _ _ _ _ _ _ => trivial) hall σ φ mt im fr s _ E trivial st ?_
      have el : evList ev.e ρ [a] σ = (ev.e a ρ σ).bind (fun v => (pure [v] : M (List AV))) := by
        unfold evList
        rw [if_pos ha]
        rfl
      rw [el]
      change SpS G C φ im fr Q E s ((ev.e a ρ σ).bind _) at hs
      induction ee : ev.e a ρ σ using Res.casesOn with
      | fail => rw [ee] at hs; exact hs.elim
      | exn σ' =>
        rw [ee] at hs
        exact fun φ' mt' im' fr' h' tk' e x f => hs φ' mt' im' fr' m h' tk' e x.toS (.inl f)
      | ok av σ' =>
        rw [ee] at hs
        induction av using AV.casesOn with
        | str t =>
          intro φ' mt' im' fr' h' tk' l x st' rl
          obtain ⟨vs, kw⟩ := l
          obtain ⟨e1, rl⟩ := rl
          dsimp only at e1
          subst e1
          refine ⟨st'.F.keep, ?_⟩
          obtain ⟨v, rfl, _⟩ := one_of rl
          refine lf_made ok lf hC (s := { s with heap := h', toks := tk' }) st' fun e h2 tk2 o vs t kk g0 g1 g2 g3 g4 g5 => ?_
          refine wpAny_bind (wpAny_standAt (wpAny_pure ?_))
          exact ⟨e, o, vs, rfl, kk _ _ (ok.X.keeps st'.F.keep _ _ hK), g1, g2, g3, g4, hs φ' mt' im' fr' m h2 tk2 e x.toS (.inr (st'.flyN kk g1 g0 g2 g3 g4 g5))⟩
        | _ => exact hs.elim
  · rw [if_neg hx] at hs
    exact hs.elim
end
end Mine
end
section
namespace Mine
open PySem

noncomputable def W {α : Type} (m : M α) (σ : AHeap) (Q : α → AHeap → Prop) (X : AHeap → Prop) : Prop := match m σ with
  | .ok a σ' => Q a σ'
  | .exn σ' => X σ'
  | .fail => False
section
variable {α β : Type} {σ : AHeap} {X : AHeap → Prop}
theorem W_bind {m : M α} {f : α → M β} {Q : β → AHeap → Prop} : W (m >>= f) σ Q X = W m σ (fun a σ' => W (f a) σ' Q X) X := by
  show (match (m σ).bind f with | .ok a σ' => Q a σ' | .exn σ' => X σ' | .fail => False) = _
  unfold W
  cases m σ <;> rfl
theorem W_pure {a : α} {Q : α → AHeap → Prop} : W (pure a : M α) σ Q X = Q a σ := rfl
theorem W_fail {Q : α → AHeap → Prop} : W (failM : M α) σ Q X = False := rfl
theorem W_raise {Q : α → AHeap → Prop} : W (raiseM : M α) σ Q X = X σ := rfl
theorem W_lift {a : α} {Q : α → AHeap → Prop} : W (liftO (some a) : M α) σ Q X = Q a σ := rfl
theorem W_alloc {o : AObj} {Q : Nat → AHeap → Prop} : W (allocM o) σ Q X = Q σ.length (σ ++ [o]) := rfl
theorem W_get {i : Nat} {o : AObj} {Q : AObj → AHeap → Prop} (h : σ[i]? = some o) : W (getObj i) σ Q X = Q o σ := by
  unfold W getObj; rw [h]
theorem W_set {i : Nat} {o : AObj} {Q : Unit → AHeap → Prop} (h : i < σ.length) : W (setObj i o) σ Q X = Q () (σ.set i o) := by
  unfold W setObj; rw [if_pos h]
theorem W_mono {m : M α} {Q Q' : α → AHeap → Prop} {X' : AHeap → Prop} (h : W m σ Q X) (hq : ∀ a σ', Q a σ' → Q' a σ') (hx : ∀ σ', X σ' → X' σ') : W m σ Q' X' := by
  unfold W at h ⊢
  induction e : m σ using Res.casesOn with
  | ok a σ' => rw [e] at h; exact hq _ _ h
  | exn σ' => rw [e] at h; exact hx _ h
  | fail => rw [e] at h; exact h
end

theorem callF_fun {n : Nat} {a : Addr} {fi : FunInfo} {args : List AV} (h : funAt a = some fi) : callF T funAt (n + 1) a args = enter T (callF T funAt n) fi args := by
  simp only [callF, h]

theorem ofString_inj {a b : String} (h : Str.ofString a = Str.ofString b) : a = b := by
  rw [Str.ofString_eq_toList, Str.ofString_eq_toList] at h
  have h := Str.mk.inj h
  have h : a.toList.map Char.toNat = b.toList.map Char.toNat := by simpa using h
  have : a.toList = b.toList := by
    exact (List.map_inj_right fun x y e => Char.toNat_inj.mp e).mp h
  exact String.toList_inj.mp this
theorem str_eq (a b : String) : (Str.ofString a = Str.ofString b) = (a = b) := propext ⟨ofString_inj, fun h => by rw [h]⟩
theorem str_beq (a b : String) : (Str.ofString a == Str.ofString b) = (a == b) := by
  rw [Bool.eq_iff_iff, beq_iff_eq, beq_iff_eq, str_eq]

theorem ev_e {c : Callee} {d : Nat} {x : Expr} {ρ : LEnv} : (evAt T c (d + 1)).e x ρ = stepE T c (evAt T c d) x ρ := rfl
theorem ev_t {c : Callee} {d : Nat} {x : Expr} {ρ : LEnv} : (evAt T c (d + 1)).t x ρ = stepT (evAt T c d) x ρ := rfl
theorem evS_s {c : Callee} {d : Nat} {x : Stmt} {ρ : LEnv} : evS T c (d + 1) x ρ = stepS T (evAt T c synDepth) (runBlock (evS T c d)) x ρ := rfl

theorem str_beq' (a b : Str) : (a == b) = decide (a = b) := by
  rw [Bool.eq_iff_iff, beq_iff_eq, decide_eq_true_iff]
theorem W_eq_str {a b : Str} {σ : AHeap} {Q : Bool → AHeap → Prop} {X : AHeap → Prop} (ha : PyData.strOk a = true) (hb : PyData.strOk b = true) : W (eqM (.str a) (.str b)) σ Q X = Q (decide (a = b)) σ := by
  have h1 : SeqAt.shaped (.str a) = true := by unfold SeqAt.shaped PyData.canLay0; rw [ha]; rfl
  have h2 : SeqAt.shaped (.str b) = true := by unfold SeqAt.shaped PyData.canLay0; rw [hb]; rfl
  have : (eqM (.str a) (.str b) : M Bool) = pure (decide (a = b)) := by
    unfold eqM
    simp only [isNil, Bool.false_and, Bool.false_eq_true, if_false, toPD, h1, h2, Bool.and_self, if_true]
    rw [← str_beq']
    rfl
  rw [this]; rfl
theorem W_ite {α : Type} {p : Prop} [Decidable p] {m m' : M α} {σ : AHeap} {Q : α → AHeap → Prop} {X : AHeap → Prop} : W (if p then m else m') σ Q X = if p then W m σ Q X else W m' σ Q X := by
  split <;> rfl
theorem strOk_ofString (a : String) : PyData.strOk (Str.ofString a) = true := by
  rw [Str.ofString_eq_toList]
  unfold PyData.strOk
  rw [← Array.all_toList]
  refine List.all_eq_true.mpr fun x hx => ?_
  obtain ⟨c, _, rfl⟩ := List.mem_map.mp hx
  have := c.valid
  refine decide_eq_true ?_
  rcases c.valid with h | ⟨_, h⟩
  · exact Nat.lt_trans h (by decide)
  · exact h
theorem strOk_append {a b : Str} (ha : PyData.strOk a = true) (hb : PyData.strOk b = true) : PyData.strOk (a ++ b) = true := by
  unfold PyData.strOk at *
  show (a.cps ++ b.cps).all _ = true
  rw [Array.all_append, ha, hb]; rfl
noncomputable def mutAtF (l c : Nat) : Nat := if l == 290 then (if c == 11 then 2 else 0) else if mutPos.contains (l, c) then 1 else if l == 351 && c == 32 then 3 else 0
theorem mutAt_T (l c l' c' : Nat) : T.mutAt ⟨l, c, l', c'⟩ = mutAtF l c := rfl
end Mine
end
section
namespace Mine
open PySem

/-! An evaluator in continuation form, over the one of Ev: what it tells is told of that one too (`Snd`). -/
noncomputable abbrev XP := AHeap → Prop
noncomputable abbrev QP (α : Type) := α → AHeap → Prop
noncomputable abbrev KM (α : Type) := AHeap → QP α → XP → Prop
noncomputable def kIf (b : Bool) (p q : Prop) : Prop := match b with
  | true => p
  | false => q
structure KEv where
  e : Expr → LEnv → KM AV
  t : Expr → LEnv → KM Bool
structure KLoops where
  comp : (AV → KM (Option AV)) → Src → KM (List AV)
  loop : (AV → KM (Option AV)) → Src → KM (Option AV)
noncomputable abbrev KCallee := Addr → List AV → KM AV

noncomputable def kList (f : Expr → LEnv → KM AV) (ρ : LEnv) : List Expr → KM (List AV)
  | [], σ, Q, _ => Q [] σ
  | e :: r, σ, Q, X => kIf (okE e) (f e ρ σ (fun v σ => kList f ρ r σ (fun vs σ => Q (v :: vs) σ) X) X) False
noncomputable def kOpt (f : Expr → LEnv → KM AV) (ρ : LEnv) : Option Expr → KM (Option AV)
  | none, σ, Q, _ => Q none σ
  | some e, σ, Q, X => f e ρ σ (fun v σ => Q (some v) σ) X
noncomputable def kTruth (v : AV) (Q : Bool → Prop) : Prop := match v with
  | .bool b => Q b
  | _ => False
noncomputable def kChain (f : Expr → LEnv → KM AV) (ρ : LEnv) : List CmpOp → AV → List Expr → KM AV
  | [], _, _, _, _, _ => False
  | op :: ops, left, l, σ, Q, X => match l with
    | [] => False
    | r :: rs => kIf (ops.isEmpty && rs.isEmpty) (kIf (okE r) (f r ρ σ (fun rv σ => W (cmpM op left rv) σ Q X) X) False)
      (f r ρ σ (fun rv σ => W (cmpM op left rv) σ (fun c σ => kTruth c fun b => kIf b (kChain f ρ ops rv rs σ Q X) (Q c σ)) X) X)
noncomputable def kBool (f : Expr → LEnv → KM AV) (ρ : LEnv) (op : BoolOp) : List Expr → KM AV
  | [], _, _, _ => False
  | [x], σ, Q, X => f x ρ σ Q X
  | x :: rest, σ, Q, X => f x ρ σ (fun v σ => kTruth v fun t => match op with
    | .And => kIf t (kBool f ρ op rest σ Q X) (Q v σ)
    | .Or => kIf t (Q v σ) (kBool f ρ op rest σ Q X)) X
noncomputable def kAll (f : Expr → LEnv → KM Bool) (ρ : LEnv) (op : BoolOp) : List Expr → KM Bool
  | [], σ, Q, _ => Q (op == .And) σ
  | x :: rest, σ, Q, X => f x ρ σ (fun t σ => match op with
    | .And => kIf t (kAll f ρ op rest σ Q X) (Q false σ)
    | .Or => kIf t (Q true σ) (kAll f ρ op rest σ Q X)) X
noncomputable def kTests (f : Expr → LEnv → KM Bool) (ρ : LEnv) : List Expr → KM Bool
  | [], σ, Q, _ => Q true σ
  | x :: rest, σ, Q, X => f x ρ σ (fun t σ => kIf t (kTests f ρ rest σ Q X) (Q false σ)) X

noncomputable def AV.len (v : AV) : Nat := match v with
  | .tup l => l.length
  | _ => 0
noncomputable def AV.isTup (v : AV) : Bool := match v with
  | .tup _ => true
  | _ => false
noncomputable def AV.nth (v : AV) (i : Nat) : AV := match v with
  | .tup l => l.getD i .none
  | _ => .none
noncomputable def nths (v : AV) : Nat → Nat → List AV
  | _, 0 => []
  | i, n + 1 => v.nth i :: nths v (i + 1) n
noncomputable def kSome (o : Option LEnv) (K : LEnv → Prop) : Prop := match o with
  | some ρ => K ρ
  | none => False
noncomputable def kBind (ρ : LEnv) (t : Expr) (v : AV) (K : LEnv → Prop) : Prop := match nameOf t with
  | some x => kSome (ρ.set x v) K
  | none => match tupleOf t with
    | some ts => kIf (decide (namesOf ts).Nodup) (kIf (v.isTup && v.len == ts.length) (kSome (bindNames ρ ts (nths v 0 ts.length)) K) False) False
    | none => False

noncomputable def kSrc (T : Tabs) (f : Expr → LEnv → KM AV) (ρ : LEnv) (e : Expr) : KM Src := match callName e with
  | some (x, a) => fun σ Q X =>
    kIf (isType "enumerate" (ρ.get T x)) (kIf (okE a && x != ("__debug__" : Str)) (f a ρ σ (fun v σ => W (toSeq v) σ (fun _ σ => Q (.enum v) σ) X) X) False)
      (kIf (isType "range" (ρ.get T x)) (kIf (okE a && x != ("__debug__" : Str)) (f a ρ σ (fun v σ => match v with
        | .int n => 0 ≤ n ∧ n ≤ (sizeCap : Int) ∧ Q (.range n.toNat) σ
        | _ => False) X) False) False)
  | none => fun σ Q X => kIf (okE e) (f e ρ σ (fun v σ => W (toSeq v) σ (fun _ σ => Q (.seq v) σ) X) X) False

noncomputable abbrev compEnv (scope : Scope) (ρ : LEnv) : LEnv := { names := scope.names, locals := fun _ => Option.none, cells := ρ.cells }
noncomputable def kComp (T : Tabs) (L : KLoops) (k : KEv) (elt : Expr) (target iter : Expr) (ifs : List Expr) (scope : Scope) (ρ : LEnv) : KM AV := fun σ Q X =>
  kIf (compOk scope && scope.names.all (fun (x, k) => k != .free || ρ.names.lookup x == some .cell)) (kSrc T k.e ρ iter σ (fun src σ =>
    kIf (srcFor target src) (L.comp (fun v σ Q X => kBind (compEnv scope ρ) target v fun ρ' =>
      kTests k.t ρ' ifs σ (fun ok σ => kIf ok (k.e elt ρ' σ (fun x σ => Q (some x) σ) X) (Q none σ)) X) src σ (fun l σ => Q (.lst l) σ) X) False) X) False

noncomputable def kCallM (c : KCallee) (f : AV) (args : List AV) : KM AV := match f with
  | .top (.ref a) => c a args
  | f => fun σ Q X => W (callM (fun _ _ => failM) f args) σ Q X
noncomputable def kMethM (c : KCallee) (k : MK) (o : AV) (args : List AV) : KM AV := match k with
  | .fn f => c f (o :: args)
  | k => fun σ Q X => W (methM (fun _ _ => failM) k o args) σ Q X
noncomputable def kStepE (T : Tabs) (L : KLoops) (c : KCallee) (k : KEv) : Expr → LEnv → KM AV
  | .Constant u _ _, _ => fun σ Q _ => match constAV u with
    | some v => Q v σ
    | none => False
  | .Name x _, ρ => fun σ Q _ => kIf (x == ("__debug__" : Str)) False (match ρ.get T x with
    | some v => Q v σ
    | none => False)
  | .BoolOp op xs _, ρ => kBool k.e ρ op xs
  | .BinOp l op r _, ρ => fun σ Q X => k.e l ρ σ (fun a σ => k.e r ρ σ (fun b σ => W (binM op a b) σ Q X) X) X
  | .UnaryOp .Not x _, ρ => fun σ Q X => k.e x ρ σ (fun v σ => kTruth v fun t => Q (.bool (!t)) σ) X
  | .IfExp t b o _, ρ => fun σ Q X => k.t t ρ σ (fun t σ => kIf t (k.e b ρ σ Q X) (k.e o ρ σ Q X)) X
  | .Dict [] [] _, _ => fun σ Q _ => Q (.obj σ.length) (σ ++ [.dict []])
  | .List es pos, ρ => fun σ Q X => kList k.e ρ es σ (fun vs σ => kIf (decide (vs.length ≤ sizeCap)) (match T.mutAt pos with
    | 0 => Q (.lst vs) σ
    | 1 => Q (.obj σ.length) (σ ++ [.list vs])
    | _ => Q (.obj σ.length) (σ ++ [.arr vs])) False) X
  | .Tuple es _ pos, ρ => fun σ Q X => kList k.e ρ es σ (fun vs σ => kIf (decide (vs.length ≤ sizeCap)) (kIf (decide (T.mutAt pos = 3)) (Q (.obj σ.length) (σ ++ [.tup vs])) (Q (.tup vs) σ)) False) X
  | .ListComp elt [⟨target, iter, ifs, 0⟩] scope _, ρ => kComp T L k elt target iter ifs scope ρ
  | .Compare l ops rs _, ρ => fun σ Q X => k.e l ρ σ (fun a σ => kChain k.e ρ ops a rs σ Q X) X
  | .Call (.Attribute o name apos) args [] pos, ρ => fun σ Q X =>
    kIf (simpleO o && apos.endLine == pos.line && decide (args.length < 30) && args.all okE) (k.e o ρ σ (fun ov σ => W (methKind T.methAt ov name) σ (fun m σ => kList k.e ρ args σ (fun vs σ => kMethM c m ov vs σ Q X) X) X) X) False
  | .Call (.Name x p) args [] _, ρ => fun σ Q X => kIf (args.all okE) (k.e (.Name x p) ρ σ (fun fv σ => kIf (goodF T.isCallee fv) (kList k.e ρ args σ (fun vs σ => kCallM c fv vs σ Q X) X) False) X) False
  | .Attribute o x _, ρ => fun σ Q X => kIf (baseOk o) (k.e o ρ σ (fun ov σ => W (getF T.fieldOk ov x) σ Q X) X) False
  | .Subscript v i _, ρ => match splitForm v i with
    | some (x, m, apos, d, pos) => fun σ Q _ =>
      kIf (m == "split" && d == "." && apos.endLine == pos.line && !(x == ("__debug__" : Str))) (match ρ.get T x with
        | some (.str s) => s.length ≤ sizeCap ∧ ∃ y r, Txt.split s "." = y :: r ∧ Q (.str y) σ
        | _ => False) False
    | none => match sliceOf i with
      | some (lo, up) => fun σ Q X => k.e v ρ σ (fun o σ => kOpt k.e ρ lo σ (fun a σ => kOpt k.e ρ up σ (fun b σ => W (sliceM o a b) σ Q X) X) X) X
      | none => fun σ Q X => k.e v ρ σ (fun o σ => k.e i ρ σ (fun j σ => W (itemM o j) σ Q X) X) X
  | _, _ => fun _ _ _ => False

noncomputable def notCond : Expr → Bool
  | .IfExp _ _ _ _ => false
  | .UnaryOp _ _ _ => false
  | .BoolOp _ _ _ => false
  | .Compare _ _ _ _ => false
  | _ => true
noncomputable def kStepT (k : KEv) : Expr → LEnv → KM Bool
  | .UnaryOp .Not x _, ρ => fun σ Q X => k.t x ρ σ (fun t σ => Q (!t) σ) X
  | .BoolOp op xs _, ρ => kAll k.t ρ op xs
  | .Compare l ops rs _, ρ => fun σ Q X => k.e l ρ σ (fun a σ => kChain k.e ρ ops a rs σ (fun v σ => kTruth v fun t => Q t σ) X) X
  | e, ρ => fun σ Q X => kIf (notCond e) (k.e e ρ σ (fun v σ => kTruth v fun t => Q t σ) X) False

noncomputable def kAt (T : Tabs) (L : KLoops) (c : KCallee) : Nat → KEv
  | 0 => ⟨fun _ _ _ _ _ => False, fun _ _ _ _ _ => False⟩
  | d + 1 => ⟨kStepE T L c (kAt T L c d), kStepT (kAt T L c d)⟩
end Mine
end
section
namespace Mine
open PySem

noncomputable def tgtNames : Expr → List Str
  | .Name x _ => [x]
  | .Tuple ts _ _ => namesOf ts
  | _ => []
noncomputable def asgL (f : Stmt → List Str) : List Stmt → List Str
  | [] => []
  | s :: r => f s ++ asgL f r
noncomputable def asg : Nat → Stmt → List Str
  | 0, _ => []
  | d + 1, s => match s with
    | .Assign [t] _ _ => tgtNames t
    | .If _ b o _ => asgL (asg d) b ++ asgL (asg d) o
    | .While _ b _ _ => asgL (asg d) b
    | .For t _ b _ _ => tgtNames t ++ asgL (asg d) b
    | _ => []
noncomputable def erase (ws : List Str) (ρ : LEnv) : LEnv :=
  { names := ρ.names, locals := fun y => match ws.contains y with | true => none | false => ρ.locals y, cells := fun y => match ws.contains y with | true => none | false => ρ.cells y }

noncomputable def AFlow.opt : AFlow → Option AV
  | .next => none
  | .ret v => some v
noncomputable def kBlock (f : Stmt → LEnv → KM (AFlow × LEnv)) : List Stmt → LEnv → KM (AFlow × LEnv)
  | [], ρ, σ, Q, _ => Q (.next, ρ) σ
  | s :: r, ρ, σ, Q, X => f s ρ σ (fun x σ => match x with
    | (.next, ρ') => kBlock f r ρ' σ Q X
    | (.ret v, ρ') => Q (.ret v, ρ') σ) X
noncomputable def kWhile (t : LEnv → KM Bool) (f : LEnv → KM (AFlow × LEnv)) : Nat → LEnv → KM (AFlow × LEnv)
  | 0, _, _, _, _ => False
  | n + 1, ρ, σ, Q, X => t ρ σ (fun b σ => kIf b (f ρ σ (fun x σ => match x with
    | (.next, ρ') => kWhile t f n ρ' σ Q X
    | (.ret v, ρ') => Q (.ret v, ρ') σ) X) (Q (.next, ρ) σ)) X
noncomputable def kFor (T : Tabs) (L : KLoops) (k : KEv) (run : List Stmt → LEnv → KM (AFlow × LEnv)) (ws : List Stmt → List Str) (target iter : Expr) (body : List Stmt) (ρ : LEnv) : KM (AFlow × LEnv) := fun σ Q X =>
  kSrc T k.e ρ iter σ (fun src σ => kIf (srcFor target src) (L.loop (fun v σ Q X => kBind (erase (tgtNames target ++ ws body) ρ) target v fun ρ' => run body ρ' σ (fun x σ => Q x.1.opt σ) X) src σ (fun r σ => match r with
      | none => Q (.next, erase (tgtNames target ++ ws body) ρ) σ
      | some v => Q (.ret v, erase (tgtNames target ++ ws body) ρ) σ) X) False) X

noncomputable def kStepS (T : Tabs) (L : KLoops) (k : KEv) (run : List Stmt → LEnv → KM (AFlow × LEnv)) (ws : List Stmt → List Str) : Stmt → LEnv → KM (AFlow × LEnv)
  | .Expr (.Call f args ks p) _, ρ => fun σ Q X => k.e (.Call f args ks p) ρ σ (fun _ σ => Q (.next, ρ) σ) X
  | .Return none _, ρ => fun σ Q _ => Q (.ret .none, ρ) σ
  | .Return (some e) _, ρ => fun σ Q X => k.e e ρ σ (fun v σ => Q (.ret v, ρ) σ) X
  | .Assign [.Name x _] e _, ρ => fun σ Q X => k.e e ρ σ (fun v σ => kSome (ρ.set x v) fun ρ' => Q (.next, ρ') σ) X
  | .Assign [.Tuple ts k' p] e _, ρ => fun σ Q X => kIf (notComp e && tsOk ρ.names ts) (match swapNames (fun id => ρ.names.lookup id == some .local) ts e with
    | none => False
    | some none => k.e e ρ σ (fun v σ => kBind ρ (.Tuple ts k' p) v fun ρ' => Q (.next, ρ') σ) X
    | some (some names) => k.e e ρ σ (fun v σ => match v with
      | .tup avs => kSome (bindArgs names.reverse avs.reverse ρ) fun ρ' => Q (.next, ρ') σ
      | _ => False) X) False
  | .Assign [.Attribute o x _] e _, ρ => fun σ Q X => kIf (notComp e) (k.e e ρ σ (fun v σ => k.e o ρ σ (fun ov σ => W (setF T.fieldOk ov x v) σ (fun _ σ => Q (.next, ρ) σ) X) X) X) False
  | .Assign [.Subscript o i _] e _, ρ => fun σ Q X => kIf (notComp e) (k.e e ρ σ (fun v σ => k.e o ρ σ (fun ov σ => k.e i ρ σ (fun iv σ => W (setItemM ov iv v) σ (fun _ σ => Q (.next, ρ) σ) X) X) X) X) False
  | .If t b o _, ρ => fun σ Q X => k.t t ρ σ (fun t σ => kIf t (run b ρ σ Q X) (run o ρ σ Q X)) X
  | .While t b [] _, ρ => kWhile (k.t t) (run b) 5 ρ
  | .For target iter body [] _, ρ => kFor T L k run ws target iter body ρ
  | .Raise e c _, ρ => match raiseForm e c with
    | some (x, a) => fun σ _ X => kIf (faultName T ρ x && okE a) (k.e a ρ σ (fun v σ => match v with
      | .str _ => X σ
      | _ => False) X) False
    | none => fun _ _ _ => False
  | .Try b h o f _, ρ => match tryForm b h o f with
    | some (e, x) => fun σ Q _ =>
      kIf (faultName T ρ x) (k.e e ρ σ (fun v σ => Q (.ret v, ρ) σ) (fun σ => Q (.ret .none, ρ) σ)) False
    | none => fun _ _ _ => False
  | _, _ => fun _ _ _ => False

noncomputable def kEvS (T : Tabs) (L : KLoops) (c : KCallee) : Nat → Stmt → LEnv → KM (AFlow × LEnv)
  | 0 => fun _ _ _ _ _ => False
  | d + 1 => kStepS T L (kAt T L c synDepth) (kBlock (kEvS T L c d)) (asgL (asg d))
noncomputable def kEnter (T : Tabs) (L : KLoops) (c : KCallee) (fi : FunInfo) (args : List AV) : KM AV := fun σ Q X =>
  kSome (bindArgs fi.pars args { names := fi.scope.names, locals := fun _ => none, cells := fun _ => none }) fun ρ =>
    kBlock (kEvS T L c stmtDepth) fi.body ρ σ (fun x σ => match x with
      | (.ret v, _) => Q v σ
      | (.next, _) => Q .none σ) X

noncomputable def loopC (body : AV → KM (Option AV)) (src : Src) : Nat → Nat → KM (List AV)
  | 0, _, _, _, _ => False
  | fuel + 1, k, σ, Q, X => W (srcNext src k) σ (fun o σ => match o with
    | none => Q [] σ
    | some v => body v σ (fun r σ => loopC body src fuel (k + 1) σ (fun l σ => match r with
      | some x => Q (x :: l) σ
      | none => Q l σ) X) X) X
noncomputable def loopF (body : AV → KM (Option AV)) (src : Src) : Nat → Nat → KM (Option AV)
  | 0, _, _, _, _ => False
  | fuel + 1, k, σ, Q, X => W (srcNext src k) σ (fun o σ => match o with
    | none => Q none σ
    | some v => body v σ (fun r σ => match r with
      | some x => Q (some x) σ
      | none => loopF body src fuel (k + 1) σ Q X) X) X
noncomputable def realLoops : KLoops := ⟨fun body src => loopC body src loopFuel 0, fun body src => loopF body src loopFuel 0⟩
end Mine
end
section
namespace Mine
open PySem

structure LEnv.Le (ρ ρ' : LEnv) : Prop where
  names : ρ'.names = ρ.names
  loc : ∀ y v, ρ.locals y = some v → ρ'.locals y = some v
  cel : ∀ y v, ρ.cells y = some v → ρ'.cells y = some v
theorem LEnv.Le.refl (ρ : LEnv) : ρ.Le ρ := ⟨rfl, fun _ _ h => h, fun _ _ h => h⟩
theorem LEnv.Le.get {T : Tabs} {ρ ρ' : LEnv} (l : ρ.Le ρ') {x : Str} {v : AV} (h : ρ.get T x = some v) : ρ'.get T x = some v := by
  unfold LEnv.get at *
  rw [l.names]
  split at h <;> first | exact l.loc _ _ h | exact l.cel _ _ h | exact h | cases h
theorem upd_le {f g : Str → Option AV} (h : ∀ y v, f y = some v → g y = some v) (x : Str) (v : AV) : ∀ y w, upd f x v y = some w → upd g x v y = some w := by
  intro y w e
  unfold upd at *
  split at e
  · rename_i q; rw [if_pos q]; exact e
  · rename_i q; rw [if_neg q]; exact h _ _ e
theorem LEnv.Le.set {ρ ρ' ρ1 : LEnv} (l : ρ.Le ρ') {x : Str} {v : AV} (h : ρ.set x v = some ρ1) : ∃ ρ2, ρ'.set x v = some ρ2 ∧ ρ1.Le ρ2 := by
  rcases set_of h with ⟨e, rfl⟩ | ⟨e, rfl⟩
  · exact ⟨{ ρ' with locals := upd ρ'.locals x v }, by unfold LEnv.set; rw [l.names, e], l.names, upd_le l.loc _ _, l.cel⟩
  · exact ⟨{ ρ' with cells := upd ρ'.cells x v }, by unfold LEnv.set; rw [l.names, e], l.names, l.loc, upd_le l.cel _ _⟩
theorem LEnv.Le.bindsA {xs : List Str} {vs : List AV} {ρ ρ1 : LEnv} (h : BindsA ρ xs vs ρ1) : ∀ {ρ' : LEnv}, ρ.Le ρ' → ∃ ρ2, BindsA ρ' xs vs ρ2 ∧ ρ1.Le ρ2 := by
  induction h with
  | nil => exact fun l => ⟨_, .nil _, l⟩
  | cons e _ ih =>
    intro ρ' l
    obtain ⟨ρ4, e4, l4⟩ := l.set e
    obtain ⟨ρ5, b, l5⟩ := ih l4
    exact ⟨ρ5, .cons e4 b, l5⟩
theorem LEnv.Le.binds {ts : List Expr} {vs : List AV} {ρ ρ1 : LEnv} (h : Binds ρ ts vs ρ1) : ∀ {ρ' : LEnv}, ρ.Le ρ' → ∃ ρ2, Binds ρ' ts vs ρ2 ∧ ρ1.Le ρ2 := by
  induction h with
  | nil => exact fun l => ⟨_, .nil _, l⟩
  | cons e _ ih =>
    intro ρ' l
    obtain ⟨ρ4, e4, l4⟩ := l.set e
    obtain ⟨ρ5, b, l5⟩ := ih l4
    exact ⟨ρ5, .cons e4 b, l5⟩
theorem LEnv.Le.bindTarget {t : Expr} {v : AV} {ρ ρ' ρ1 : LEnv} (l : ρ.Le ρ') (h : Mine.bindTarget ρ t v = some ρ1) : ∃ ρ2, Mine.bindTarget ρ' t v = some ρ2 ∧ ρ1.Le ρ2 := by
  rcases bindTarget_of h with ⟨x, p, rfl, e⟩ | ⟨ts, k, p, vs, rfl, rfl, hn, b⟩
  · exact l.set e
  · obtain ⟨ρ2, b2, l2⟩ := LEnv.Le.binds b l
    refine ⟨ρ2, ?_, l2⟩
    show (if (namesOf ts).Nodup then bindNames ρ' ts vs else none) = some ρ2
    rw [if_pos hn, b2.eq]
theorem LEnv.Le.bindArgs {xs : List Str} {vs : List AV} {ρ ρ' ρ1 : LEnv} (l : ρ.Le ρ') (h : Mine.bindArgs xs vs ρ = some ρ1) : ∃ ρ2, Mine.bindArgs xs vs ρ' = some ρ2 ∧ ρ1.Le ρ2 := by
  obtain ⟨ρ2, b, l2⟩ := LEnv.Le.bindsA (bindsA_of h) l
  exact ⟨ρ2, b.eq, l2⟩

theorem kSome_iff {o : Option LEnv} {K : LEnv → Prop} (h : kSome o K) : ∃ ρ, o = some ρ ∧ K ρ := by
  induction o using Option.casesOn with
  | none => exact h.elim
  | some ρ => exact ⟨ρ, rfl, h⟩
theorem kIf_true {b : Bool} {p : Prop} (h : kIf b p False) : b = true ∧ p := by
  induction b using Bool.casesOn with
  | false => exact h.elim
  | true => exact ⟨rfl, h⟩
theorem nths_of : ∀ (vs pre : List AV), nths (.tup (pre ++ vs)) pre.length vs.length = vs
  | [], _ => rfl
  | v :: vs, pre => by
    show (AV.tup (pre ++ v :: vs)).nth pre.length :: nths (.tup (pre ++ v :: vs)) (pre.length + 1) vs.length = _
    have := nths_of vs (pre ++ [v])
    rw [List.length_append, List.append_assoc] at this
    rw [show pre.length + 1 = pre.length + [v].length from rfl, show v :: vs = [v] ++ vs from rfl, this]
    show _ :: _ = _
    congr 1
    simp [AV.nth]
theorem isTup_iff {v : AV} (h : v.isTup = true) : ∃ l, v = .tup l := by
  cases v <;> first | exact ⟨_, rfl⟩ | exact absurd h Bool.false_ne_true
theorem kBind_iff {ρ : LEnv} {t : Expr} {v : AV} {K : LEnv → Prop} (h : kBind ρ t v K) : ∃ ρ1, bindTarget ρ t v = some ρ1 ∧ K ρ1 := by
  unfold kBind at h
  unfold bindTarget
  induction e : nameOf t using Option.casesOn with
  | some x => rw [e] at h; exact kSome_iff h
  | none =>
    rw [e] at h
    induction e2 : tupleOf t using Option.casesOn with
    | none => rw [e2] at h; exact h.elim
    | some ts =>
      rw [e2] at h
      obtain ⟨h1, h⟩ := kIf_true h
      obtain ⟨h2, h⟩ := kIf_true h
      obtain ⟨ρ1, e, hk⟩ := kSome_iff h
      refine ⟨ρ1, ?_, hk⟩
      obtain ⟨h2, h3⟩ := Bool.and_eq_true_iff.mp h2
      obtain ⟨l, rfl⟩ := isTup_iff h2
      show (if (namesOf ts).Nodup then bindNames ρ ts l else none) = _
      rw [if_pos (of_decide_eq_true h1)]
      have hl : l.length = _ := beq_iff_eq.mp h3
      have := nths_of l []
      rw [← hl] at e
      change nths (.tup l) 0 l.length = l at this
      rw [this] at e
      exact e

theorem W_imp {α : Type} {m : M α} {σ : AHeap} {Q Q' : α → AHeap → Prop} {X : AHeap → Prop} (h : W m σ Q X) (hq : ∀ a σ', Q a σ' → Q' a σ') : W m σ Q' X := W_mono h hq fun _ h => h
theorem W_then {α β : Type} {m : M α} {f : α → M β} {σ : AHeap} {Q : α → AHeap → Prop} {Q' : β → AHeap → Prop} {X : AHeap → Prop} (h : W m σ Q X) (hq : ∀ a σ', Q a σ' → W (f a) σ' Q' X) : W (m >>= f) σ Q' X := by
  rw [W_bind]; exact W_imp h hq
theorem kTruth_W {v : AV} {K : Bool → Prop} {σ : AHeap} {X : AHeap → Prop} (h : kTruth v K) : W (truth v) σ (fun b σ' => σ' = σ ∧ K b) X := by
  cases v <;> first | exact h.elim | exact ⟨rfl, h⟩

section
variable {f : Expr → LEnv → KM AV} {g : Expr → LEnv → M AV} {ft : Expr → LEnv → KM Bool} {gt : Expr → LEnv → M Bool} {ρ ρ' : LEnv}
theorem kList_W (hf : ∀ x σ Q X, f x ρ σ Q X → W (g x ρ') σ Q X) : ∀ {l : List Expr} {σ : AHeap} {Q : QP (List AV)} {X : XP}, kList f ρ l σ Q X → W (evList g ρ' l) σ Q X
  | [], _, _, _, h => h
  | e :: r, σ, Q, X, h => by
    obtain ⟨h1, h⟩ := kIf_true (show kIf _ _ _ from h)
    show W (if okE e then _ else _) σ Q X
    rw [if_pos h1]
    refine W_then (hf _ _ _ _ h) fun v σ' h => W_then (kList_W hf h) fun vs σ' h => h
theorem kOpt_W (hf : ∀ x σ Q X, f x ρ σ Q X → W (g x ρ') σ Q X) : ∀ {o : Option Expr} {σ : AHeap} {Q : QP (Option AV)} {X : XP}, kOpt f ρ o σ Q X → W (evOpt g ρ' o) σ Q X
  | none, _, _, _, h => h
  | some e, σ, Q, X, h => W_then (hf _ _ _ _ h) fun v σ' h => h
theorem kChain_W (hf : ∀ x σ Q X, f x ρ σ Q X → W (g x ρ') σ Q X) : ∀ {ops : List CmpOp} {l : List Expr} {left : AV} {σ : AHeap} {Q : QP AV} {X : XP}, kChain f ρ ops left l σ Q X → W (chainE g ρ' left ops l) σ Q X
  | [], _, _, _, _, _, h => h.elim
  | _ :: _, [], _, _, _, _, h => h.elim
  | op :: ops, r :: rs, left, σ, Q, X, h => by
    have h : kIf (ops.isEmpty && rs.isEmpty) _ _ := h
    show W (if (ops.isEmpty && rs.isEmpty) = true then _ else _) σ Q X
    induction e : ops.isEmpty && rs.isEmpty using Bool.casesOn with
    | true =>
      rw [e] at h
      obtain ⟨h1, h⟩ := kIf_true (show kIf _ _ _ from h)
      rw [if_pos rfl]
      show W (if okE r then _ else _) σ Q X
      rw [if_pos h1]
      exact W_then (hf _ _ _ _ h) fun v σ' h => h
    | false =>
      rw [e] at h
      rw [if_neg Bool.false_ne_true]
      refine W_then (hf _ _ _ _ h) fun v σ' h => W_then h fun c σ' h => W_then (kTruth_W h) fun b σ'' h => ?_
      obtain ⟨rfl, h⟩ := h
      induction b using Bool.casesOn with
      | false => exact h
      | true => exact kChain_W hf h
theorem kBool_W (hf : ∀ x σ Q X, f x ρ σ Q X → W (g x ρ') σ Q X) : ∀ {l : List Expr} {op : BoolOp} {σ : AHeap} {Q : QP AV} {X : XP}, kBool f ρ op l σ Q X → W (boolE g ρ' op l) σ Q X
  | [], _, _, _, _, h => h.elim
  | [x], op, σ, Q, X, h => hf _ _ _ _ h
  | x :: y :: r, op, σ, Q, X, h => by
    refine W_then (hf _ _ _ _ (show f x ρ σ _ X from h)) fun v σ' h => W_then (kTruth_W h) fun b σ'' h => ?_
    obtain ⟨rfl, h⟩ := h
    cases op <;> cases b <;> first | exact h | exact kBool_W hf h
theorem kAll_W (hf : ∀ x σ Q X, ft x ρ σ Q X → W (gt x ρ') σ Q X) : ∀ {l : List Expr} {op : BoolOp} {σ : AHeap} {Q : QP Bool} {X : XP}, kAll ft ρ op l σ Q X → W (allT gt ρ' op l) σ Q X
  | [], _, _, _, _, h => h
  | x :: r, op, σ, Q, X, h => by
    refine W_then (hf _ _ _ _ (show ft x ρ σ _ X from h)) fun b σ' h => ?_
    cases op <;> cases b <;> first | exact h | exact kAll_W hf h
theorem kTests_W (hf : ∀ x σ Q X, ft x ρ σ Q X → W (gt x ρ') σ Q X) : ∀ {l : List Expr} {σ : AHeap} {Q : QP Bool} {X : XP}, kTests ft ρ l σ Q X → W (testsT gt ρ' l) σ Q X
  | [], _, _, _, h => h
  | x :: r, σ, Q, X, h => by
    refine W_then (hf _ _ _ _ (show ft x ρ σ _ X from h)) fun b σ' h => ?_
    cases b <;> first | exact h | exact kTests_W hf h
theorem isType_get {T : Tabs} {x : Str} {n : String} (l : ρ.Le ρ') (h : isType n (ρ.get T x) = true) : isType n (ρ'.get T x) = true := by
  induction e : ρ.get T x using Option.casesOn with
  | none => rw [e] at h; exact absurd h Bool.false_ne_true
  | some v => rw [e] at h; rw [l.get e]; exact h
theorem isType_ne {o : Option AV} (h : isType "range" o = true) : isType "enumerate" o = false := by
  unfold isType at *
  split at h
  · rename_i m
    have := beq_iff_eq.mp h
    subst this
    rfl
  · exact (no_ft h).elim
theorem kSrc_W {T : Tabs} (l : ρ.Le ρ') (hf : ∀ x σ Q X, f x ρ σ Q X → W (g x ρ') σ Q X) {e : Expr} {σ : AHeap} {Q : QP Src} {X : XP} (h : kSrc T f ρ e σ Q X) : W (iterSrc T g ρ' e) σ Q X := by
  unfold kSrc at h
  unfold iterSrc
  induction ec : callName e using Option.casesOn with
  | some xa =>
    obtain ⟨x, a⟩ := xa
    rw [ec] at h
    have h : kIf (isType "enumerate" (ρ.get T x)) _ _ := h
    show W (if isType "enumerate" (ρ'.get T x) then _ else _) σ Q X
    induction e1 : isType "enumerate" (ρ.get T x) using Bool.casesOn with
    | true =>
      rw [e1] at h
      obtain ⟨h1, h⟩ := kIf_true (show kIf _ _ _ from h)
      rw [if_pos (isType_get l e1), if_pos h1]
      exact W_then (hf _ _ _ _ h) fun v σ' h => W_then h fun _ σ' h => h
    | false =>
      rw [e1] at h
      obtain ⟨h0, h⟩ := kIf_true (show kIf _ _ _ from h)
      obtain ⟨h1, h⟩ := kIf_true (show kIf _ _ _ from h)
      have h2 := isType_get l h0
      rw [if_neg (by rw [isType_ne h2]; exact Bool.false_ne_true), if_pos h2, if_pos h1]
      refine W_then (hf _ _ _ _ h) fun v σ' h => ?_
      induction v using AV.casesOn with
      | int n =>
        show W (if _ then _ else _) σ' Q X
        rw [if_pos ⟨h.1, h.2.1⟩]
        exact h.2.2
      | _ => exact h.elim
  | none =>
    rw [ec] at h
    obtain ⟨h1, h⟩ := kIf_true (show kIf _ _ _ from h)
    show W (if _ then _ else _) σ Q X
    rw [if_pos h1]
    exact W_then (hf _ _ _ _ h) fun v σ' h => W_then h fun _ σ' h => h
end
end Mine
end
section
namespace Mine
open PySem

theorem BindsA.cells {xs : List Str} {vs : List AV} {ρ ρ1 : LEnv} (h : BindsA ρ xs vs ρ1) : (∀ x, ρ.names.lookup x ≠ some .cell) → ρ1.cells = ρ.cells ∧ ρ1.names = ρ.names := by
  induction h with
  | nil => exact fun _ => ⟨rfl, rfl⟩
  | @cons ρ ρ3 ρ2 x xs v vs e _ ih =>
    intro hc
    have e3 : ρ3.cells = ρ.cells ∧ ρ3.names = ρ.names := by
      rcases set_of e with ⟨_, rfl⟩ | ⟨q, _⟩
      · exact ⟨rfl, rfl⟩
      · exact absurd q (hc x)
    obtain ⟨a, b⟩ := ih (by rw [e3.2]; exact hc)
    exact ⟨a.trans e3.1, b.trans e3.2⟩
theorem bindTarget_cells {t : Expr} {v : AV} {ρ ρ1 : LEnv} (hc : ∀ x, ρ.names.lookup x ≠ some .cell) (h : bindTarget ρ t v = some ρ1) : ρ1.cells = ρ.cells ∧ ρ1.names = ρ.names := by
  rcases bindTarget_of h with ⟨x, p, rfl, e⟩ | ⟨ts, k, p, vs, rfl, rfl, hn, b⟩
  · exact (BindsA.cons e (.nil _)).cells hc
  · exact b.a.cells hc
theorem compOk_cells {s : Scope} (h : compOk s = true) (x : Str) : s.names.lookup x ≠ some .cell := by
  unfold compOk at h
  simp only [Bool.and_eq_true] at h
  intro e
  have hm : (x, NameKind.cell) ∈ s.names := by
    generalize s.names = l at e
    induction l with
    | nil => exact (no_ns e).elim
    | cons p r ih =>
      obtain ⟨y, k⟩ := p
      rw [List.lookup_cons] at e
      split at e
      · rename_i q
        have := beq_iff_eq.mp q
        subst this
        cases e
        exact List.mem_cons_self
      · exact List.mem_cons_of_mem _ (ih e)
  have := List.all_eq_true.mp h.2 _ hm
  simp only [Bool.and_eq_true, Bool.or_eq_true, beq_iff_eq, reduceCtorEq, or_self, false_or, or_false, and_false, false_and] at this
structure Snd (k : KEv) (ev : Ev) : Prop where
  e : ∀ x ρ ρ' σ Q X, LEnv.Le ρ ρ' → k.e x ρ σ Q X → W (ev.e x ρ') σ Q X
  t : ∀ x ρ ρ' σ Q X, LEnv.Le ρ ρ' → k.t x ρ σ Q X → W (ev.t x ρ') σ Q X
noncomputable def SndC (kc : KCallee) (c : Callee) : Prop := ∀ a args σ Q X, kc a args σ Q X → W (c a args) σ Q X

theorem compLoop_W {ev : Ev} {target elt : Expr} {ifs : List Expr} {src : Src} {body : AV → KM (Option AV)} {base : LEnv} (hc : ∀ x, base.names.lookup x ≠ some .cell) (hl : base.locals = fun _ => none)
    (hb : ∀ v σ Q X, body v σ Q X → ∃ ρ1, bindTarget base target v = some ρ1 ∧ ∀ ρ2, ρ1.Le ρ2 → W (testsT ev.t ρ2 ifs) σ (fun ok σ => if ok then W (ev.e elt ρ2) σ (fun x σ => Q (some x) σ) X else Q none σ) X) :
    ∀ {fuel k : Nat} {ρ : LEnv} {σ : AHeap} {Q : QP (List AV)} {X : XP}, base.Le ρ → ρ.cells = base.cells → loopC body src fuel k σ Q X → W (compLoop ev target elt ifs src fuel k ρ) σ Q X
  | 0, _, _, _, _, _, _, _, h => by unfold loopC at h; exact h.elim
  | fuel + 1, k, ρ, σ, Q, X, l, lc, h => by
    unfold loopC at h
    show W (srcNext src k >>= _) σ Q X
    refine W_then h fun o σ h => ?_
    induction o using Option.casesOn with
    | none => exact h
    | some v =>
      obtain ⟨ρ1, e1, h⟩ := hb _ _ _ _ h
      obtain ⟨ρ2, e2, l2⟩ := l.bindTarget e1
      have c2 := bindTarget_cells (by rw [l.names]; exact hc) e2
      show W (liftO (bindTarget ρ target v) >>= _) σ Q X
      rw [e2, W_bind, W_lift]
      refine W_then (h ρ2 l2) fun ok σ h => ?_
      have lb : base.Le ρ2 := ⟨c2.2.trans l.names, fun y w q => (by rw [hl] at q; exact (no_ns q).elim), fun y w q => (by rw [c2.1]; exact l.cel _ _ q)⟩
      have c3 : ρ2.cells = base.cells := c2.1.trans lc
      induction ok using Bool.casesOn with
      | false =>
        rw [if_neg Bool.false_ne_true]
        exact compLoop_W hc hl hb lb c3 (by rw [if_neg Bool.false_ne_true] at h; exact h)
      | true =>
        rw [if_pos rfl] at h ⊢
        refine W_then h fun x σ h => W_then (compLoop_W hc hl hb lb c3 h) fun l σ h => h

section
variable {T : Tabs} {c : Callee} {kc : KCallee} {k : KEv} {ev : Ev}
theorem kCallM_W (hC : SndC kc c) {f : AV} {args : List AV} {σ : AHeap} {Q : QP AV} {X : XP} (h : kCallM kc f args σ Q X) : W (callM c f args) σ Q X := by
  induction f using AV.casesOn with
  | top v => induction v using PySem.Value.casesOn with
    | ref a => exact hC _ _ _ _ _ h
    | _ => exact h
  | _ => exact h
theorem kMethM_W (hC : SndC kc c) {m : MK} {o : AV} {args : List AV} {σ : AHeap} {Q : QP AV} {X : XP} (h : kMethM kc m o args σ Q X) : W (methM c m o args) σ Q X := by
  cases m <;> first | exact h | exact hC _ _ _ _ _ h
theorem kComp_W (S : Snd k ev) {elt target iter : Expr} {ifs : List Expr} {scope : Scope} {pos : Pos} {ρ ρ' : LEnv} {σ : AHeap} {Q : QP AV} {X : XP} (l : ρ.Le ρ') (h : kComp T realLoops k elt target iter ifs scope ρ σ Q X) :
    W (stepE T c ev (.ListComp elt [⟨target, iter, ifs, 0⟩] scope pos) ρ') σ Q X := by
  unfold kComp at h
  obtain ⟨h1, h⟩ := kIf_true h
  show W (if _ then _ else _) σ Q X
  rw [l.names, if_pos h1]
  refine W_then (kSrc_W l (fun x σ Q X => S.e _ _ _ _ _ _ l) h) fun src σ h => ?_
  obtain ⟨h2, h⟩ := kIf_true h
  rw [if_pos h2]
  have hc := compOk_cells (Bool.and_eq_true_iff.mp h1).1
  have lb : (compEnv scope ρ).Le { names := scope.names, locals := fun _ => none, cells := ρ'.cells } := ⟨rfl, fun y w q => (nomatch q), fun y w q => l.cel _ _ q⟩
  have key := compLoop_W (ev := ev) (target := target) (elt := elt) (ifs := ifs) (src := src) (base := { names := scope.names, locals := fun _ => none, cells := ρ'.cells })
    (body := fun v σ Q X => kBind (compEnv scope ρ) target v fun ρ' => kTests k.t ρ' ifs σ (fun ok σ => kIf ok (k.e elt ρ' σ (fun x σ => Q (some x) σ) X) (Q none σ)) X) hc rfl (by
      intro v σ Q X h
      obtain ⟨ρ1, e1, h⟩ := kBind_iff h
      obtain ⟨ρ2, e2, l2⟩ := lb.bindTarget e1
      refine ⟨ρ2, e2, fun ρ3 l3 => ?_⟩
      have l4 : ρ1.Le ρ3 := ⟨l3.names.trans l2.names, fun y w q => l3.loc _ _ (l2.loc _ _ q), fun y w q => l3.cel _ _ (l2.cel _ _ q)⟩
      refine W_imp (kTests_W (fun x σ Q X => S.t _ _ _ _ _ _ l4) h) fun ok σ h => ?_
      induction ok using Bool.casesOn with
      | false => rw [if_neg Bool.false_ne_true]; exact h
      | true => rw [if_pos rfl]; exact S.e _ _ _ _ _ _ l4 h)
    (LEnv.Le.refl _) rfl h
  exact W_then key fun l σ h => h

theorem comp_form (gens : List Comprehension) : (∃ t i fs, gens = [⟨t, i, fs, 0⟩]) ∨ ∀ {T : Tabs} {L : KLoops} {c : KCallee} {k : KEv} {elt : Expr} {scope : Scope} {p : Pos} {ρ : LEnv} {σ : AHeap} {Q : QP AV} {X : XP}, kStepE T L c k (.ListComp elt gens scope p) ρ σ Q X → False := by
  rcases gens with _ | ⟨⟨t, i, fs, z⟩, _ | ⟨g, r⟩⟩
  · exact .inr fun h => h
  · rcases z with z | z
    · rcases z with _ | z
      · exact .inl ⟨t, i, fs, rfl⟩
      · exact .inr fun h => h
    · exact .inr fun h => h
  · rcases z with z | z
    · rcases z with _ | z
      · exact .inr fun h => h
      · exact .inr fun h => h
    · exact .inr fun h => h
theorem call_form (f : Expr) (kws : List Keyword) : (kws = [] ∧ ((∃ o name apos, f = .Attribute o name apos) ∨ ∃ x q, f = .Name x q)) ∨ ∀ {T : Tabs} {L : KLoops} {c : KCallee} {k : KEv} {args : List Expr} {p : Pos} {ρ : LEnv} {σ : AHeap} {Q : QP AV} {X : XP}, kStepE T L c k (.Call f args kws p) ρ σ Q X → False := by
  induction f using PySem.Expr.casesOn with
  | Attribute o name apos =>
    induction kws using List.casesOn with
    | nil => exact .inl ⟨rfl, .inl ⟨_, _, _, rfl⟩⟩
    | cons _ _ => exact .inr fun h => h
  | Name x q =>
    induction kws using List.casesOn with
    | nil => exact .inl ⟨rfl, .inr ⟨_, _, rfl⟩⟩
    | cons _ _ => exact .inr fun h => h
  | _ => exact .inr fun h => h
theorem stepE_W (S : Snd k ev) (hC : SndC kc c) {e : Expr} {ρ ρ' : LEnv} {σ : AHeap} {Q : QP AV} {X : XP} (l : ρ.Le ρ') (h : kStepE T realLoops kc k e ρ σ Q X) : W (stepE T c ev e ρ') σ Q X := by
  have he : ∀ x σ Q X, k.e x ρ σ Q X → W (ev.e x ρ') σ Q X := fun x σ Q X => S.e _ _ _ _ _ _ l
  induction e using PySem.Expr.casesOn with
  | Constant u n p =>
    have h : (match constAV u with | some v => Q v σ | none => False) := h
    show W (liftO (constAV _)) σ Q X
    induction q : constAV u using Option.casesOn with
    | some v => rw [q] at h; exact h
    | none => rw [q] at h; exact h.elim
  | Name x p =>
    induction q : (x == ("__debug__" : Str)) using Bool.casesOn with
    | true =>
      have h : kIf (x == ("__debug__" : Str)) False _ := h
      rw [q] at h; exact h.elim
    | false =>
      have h : kIf (x == ("__debug__" : Str)) False (match ρ.get T x with | some v => Q v σ | none => False) := h
      rw [q] at h
      have h : (match ρ.get T x with | some v => Q v σ | none => False) := h
      show W (if (x == ("__debug__" : Str)) = false then _ else _) σ Q X
      rw [if_pos q]
      induction q2 : ρ.get T x using Option.casesOn with
      | some v => rw [q2] at h; rw [l.get q2]; exact h
      | none => rw [q2] at h; exact h.elim
  | BoolOp op xs p => exact kBool_W he h
  | BinOp a op b p => exact W_then (he _ _ _ _ h) fun a σ h => W_then (he _ _ _ _ h) fun b σ h => h
  | UnaryOp op x p =>
    induction op using PySem.UnaryOp.casesOn with
    | Not =>
      refine W_then (he _ _ _ _ h) fun a σ h => W_then (kTruth_W h) fun b σ' h => ?_
      obtain ⟨rfl, h⟩ := h; exact h
    | _ => exact h.elim
  | IfExp t b o p =>
    refine W_then (S.t _ _ _ _ _ _ l h) fun b σ h => ?_
    induction b using Bool.casesOn with
    | true => exact he _ _ _ _ h
    | false => exact he _ _ _ _ h
  | Dict ks vs p =>
    induction ks using List.casesOn with
    | nil =>
      induction vs using List.casesOn with
      | nil => exact h
      | cons _ _ => exact h.elim
    | cons _ _ => exact h.elim
  | List es p =>
    show W (evList ev.e ρ' es >>= _) σ Q X
    refine W_then (kList_W he h) fun vs σ h => ?_
    obtain ⟨h1, h⟩ := kIf_true h
    rw [if_pos (of_decide_eq_true h1)]
    generalize T.mutAt p = m at h ⊢
    match m with
    | 0 => exact h
    | 1 => exact h
    | _ + 2 => exact h
  | Tuple es kk p =>
    show W (evList ev.e ρ' es >>= _) σ Q X
    refine W_then (kList_W he h) fun vs σ h => ?_
    obtain ⟨h1, h⟩ := kIf_true h
    rw [if_pos (of_decide_eq_true h1)]
    by_cases q : T.mutAt p = 3
    · rw [decide_eq_true q] at h; rw [if_pos q]; exact h
    · rw [decide_eq_false q] at h; rw [if_neg q]; exact h
  | ListComp elt gens scope p =>
    rcases comp_form gens with ⟨t, i, fs, hg⟩ | hn
    · subst hg
      exact kComp_W S l h
    · exact (hn h).elim
  | Compare a ops rs p => exact W_then (he _ _ _ _ h) fun a σ h => kChain_W he h
  | Call f args kws p =>
    rcases call_form f kws with ⟨hk, ⟨o, name, apos, hf⟩ | ⟨x, q, hf⟩⟩ | hn
    · subst hk hf
      obtain ⟨h1, h⟩ := kIf_true h
      show W (if _ then _ else _) σ Q X
      rw [if_pos h1]
      exact W_then (he _ _ _ _ h) fun o σ h => W_then h fun m σ h => W_then (kList_W he h) fun vs σ h => kMethM_W hC h
    · subst hk hf
      obtain ⟨h1, h⟩ := kIf_true h
      show W (if (true && args.all okE) = true then _ else _) σ Q X
      rw [if_pos (by rw [Bool.true_and]; exact h1)]
      refine W_then (he _ _ _ _ h) fun f σ h => ?_
      obtain ⟨h2, h⟩ := kIf_true h
      rw [if_pos h2]
      exact W_then (kList_W he h) fun vs σ h => kCallM_W hC h
    · exact (hn h).elim
  | Attribute o x p =>
    obtain ⟨h1, h⟩ := kIf_true h
    show W (if _ then _ else _) σ Q X
    rw [if_pos h1]
    exact W_then (he _ _ _ _ h) fun o σ h => h
  | Subscript v i p =>
    change (match splitForm v i with | some (x, m, apos, d, pos) => _ | none => _ : KM AV) σ Q X at h
    show W (match splitForm v i with | some (x, m, apos, d, pos) => _ | none => _) σ Q X
    induction q : splitForm v i using Option.casesOn with
    | some r =>
      obtain ⟨x, m, apos, d, pos⟩ := r
      rw [q] at h
      obtain ⟨h1, h⟩ := kIf_true h
      simp only [Bool.and_eq_true, beq_iff_eq, Bool.not_eq_true'] at h1
      show W (if _ then _ else _) σ Q X
      rw [if_pos ⟨h1.1.1.1, h1.1.1.2, beq_iff_eq.mpr h1.1.2, h1.2⟩]
      induction q2 : ρ.get T x using Option.casesOn with
      | none => rw [q2] at h; exact h.elim
      | some a =>
        rw [q2] at h
        induction a using AV.casesOn with
        | str s =>
          rw [l.get q2]
          obtain ⟨h2, y, r, e, h⟩ := h
          show W (if _ then _ else _) σ Q X
          rw [if_pos h2, e]; exact h
        | _ => exact h.elim
    | none =>
      rw [q] at h
      show W (match sliceOf i with
        | some (lo, up) => _
        | none => _) σ Q X
      induction hs : sliceOf i using Option.casesOn with
      | some lu =>
        obtain ⟨lo, up⟩ := lu
        have h : (match sliceOf i with
          | some (lo, up) => _
          | none => _ : KM AV) σ Q X := h
        rw [hs] at h
        exact W_then (he _ _ _ _ h) fun o σ h => W_then (kOpt_W he h) fun a σ h => W_then (kOpt_W he h) fun b σ h => h
      | none =>
        have h : (match sliceOf i with
          | some (lo, up) => _
          | none => _ : KM AV) σ Q X := h
        rw [hs] at h
        exact W_then (he _ _ _ _ h) fun o σ h => W_then (he _ _ _ _ h) fun i σ h => h
  | _ => exact h.elim
theorem stepT_gen (S : Snd k ev) {e : Expr} {ρ ρ' : LEnv} {σ : AHeap} {Q : QP Bool} {X : XP} (l : ρ.Le ρ') (he : stepT ev e ρ' = ev.e e ρ' >>= truth) (h : kIf true (k.e e ρ σ (fun v σ => kTruth v fun t => Q t σ) X) False) : W (stepT ev e ρ') σ Q X := by
  rw [he]
  exact W_then (S.e _ _ _ _ _ _ l h) fun v σ h => W_imp (kTruth_W h) fun b σ' h => by obtain ⟨rfl, h⟩ := h; exact h
theorem stepT_W (S : Snd k ev) {e : Expr} {ρ ρ' : LEnv} {σ : AHeap} {Q : QP Bool} {X : XP} (l : ρ.Le ρ') (h : kStepT k e ρ σ Q X) : W (stepT ev e ρ') σ Q X := by
  induction e using PySem.Expr.casesOn with
  | UnaryOp op x p =>
    induction op using PySem.UnaryOp.casesOn with
    | Not => exact W_then (S.t _ _ _ _ _ _ l h) fun b σ h => h
    | _ => exact h.elim
  | BoolOp op xs p => exact kAll_W (fun x σ Q X => S.t _ _ _ _ _ _ l) h
  | Compare a ops rs p =>
    refine W_then (S.e _ _ _ _ _ _ l h) fun a σ h => W_then (kChain_W (fun x σ Q X => S.e _ _ _ _ _ _ l) h) fun v σ h => ?_
    exact W_imp (kTruth_W h) fun b σ' h => by obtain ⟨rfl, h⟩ := h; exact h
  | IfExp a b c p => exact h.elim
  | _ => exact stepT_gen S l rfl h
theorem at_W (hC : SndC kc c) : ∀ d, Snd (kAt T realLoops kc d) (evAt T c d)
  | 0 => ⟨fun _ _ _ _ _ _ _ h => h.elim, fun _ _ _ _ _ _ _ h => h.elim⟩
  | d + 1 => ⟨fun x ρ ρ' σ Q X l h => stepE_W (at_W hC d) hC l h, fun x ρ ρ' σ Q X l h => stepT_W (at_W hC d) l h⟩
end
end Mine
end
section
namespace Mine
open PySem

structure Fr' (ws : List Str) (ρ ρ' : LEnv) : Prop where
  names : ρ'.names = ρ.names
  loc : ∀ y, y ∉ ws → ρ'.locals y = ρ.locals y
  cel : ∀ y, y ∉ ws → ρ'.cells y = ρ.cells y
theorem Fr'.refl (ws : List Str) (ρ : LEnv) : Fr' ws ρ ρ := ⟨rfl, fun _ _ => rfl, fun _ _ => rfl⟩
theorem Fr'.trans {ws : List Str} {ρ ρ' ρ'' : LEnv} (a : Fr' ws ρ ρ') (b : Fr' ws ρ' ρ'') : Fr' ws ρ ρ'' := ⟨b.names.trans a.names, fun y h => (b.loc y h).trans (a.loc y h), fun y h => (b.cel y h).trans (a.cel y h)⟩
theorem Fr'.mono {ws ws' : List Str} {ρ ρ' : LEnv} (a : Fr' ws ρ ρ') (h : ∀ y ∈ ws, y ∈ ws') : Fr' ws' ρ ρ' := ⟨a.names, fun y n => a.loc y fun q => n (h y q), fun y n => a.cel y fun q => n (h y q)⟩
theorem upd_ne {f : Str → Option AV} {x y : Str} {v : AV} (h : y ≠ x) : upd f x v y = f y := if_neg h
theorem Fr'.set {ρ ρ1 : LEnv} {x : Str} {v : AV} (h : ρ.set x v = some ρ1) : Fr' [x] ρ ρ1 := by
  rcases set_of h with ⟨_, rfl⟩ | ⟨_, rfl⟩
  · exact ⟨rfl, fun y n => upd_ne fun q => n (by rw [q]; exact List.mem_singleton.mpr rfl), fun _ _ => rfl⟩
  · exact ⟨rfl, fun _ _ => rfl, fun y n => upd_ne fun q => n (by rw [q]; exact List.mem_singleton.mpr rfl)⟩
theorem Fr'.bindsA {xs : List Str} {vs : List AV} {ρ ρ1 : LEnv} (h : BindsA ρ xs vs ρ1) : Fr' xs ρ ρ1 := by
  induction h with
  | nil => exact Fr'.refl _ _
  | cons e _ ih => exact ((Fr'.set e).mono fun y q => by rw [List.mem_singleton.mp q]; exact List.mem_cons_self).trans (ih.mono fun y q => List.mem_cons_of_mem _ q)
theorem Fr'.bindTarget {t : Expr} {v : AV} {ρ ρ1 : LEnv} (h : Mine.bindTarget ρ t v = some ρ1) : Fr' (tgtNames t) ρ ρ1 := by
  rcases bindTarget_of h with ⟨x, p, rfl, e⟩ | ⟨ts, k, p, vs, rfl, rfl, hn, b⟩
  · exact Fr'.set e
  · exact Fr'.bindsA b.a
theorem Fr'.bindArgs {xs : List Str} {vs : List AV} {ρ ρ1 : LEnv} (h : Mine.bindArgs xs vs ρ = some ρ1) : Fr' xs ρ ρ1 := Fr'.bindsA (bindsA_of h)
theorem nameAt_name {loc : Str → Bool} {n : Nat} {t : Expr} {y : Str} (h : nameAt loc n t = some y) : nameOf t = some y := by
  induction t using PySem.Expr.casesOn with
  | Name id p =>
    induction e : loc id && p.line == n using Bool.casesOn with
    | true =>
      have h : (if (loc id && p.line == n) = true then some id else none) = some y := h
      rw [e] at h
      exact h
    | false =>
      have h : (if (loc id && p.line == n) = true then some id else none) = some y := h
      rw [e] at h
      exact (no_ns h).elim
  | _ => exact (no_ns h).elim
theorem nameAt_in {loc : Str → Bool} {n : Nat} {x : Str} : ∀ {ts : List Expr}, x ∈ ts.filterMap (nameAt loc n) → x ∈ namesOf ts
  | [], h => by cases h
  | t :: ts, h => by
    have key : x ∈ namesOf ts → x ∈ namesOf (t :: ts) := fun q => by
      show x ∈ (match nameOf t with
        | some x => x :: namesOf ts
        | none => namesOf ts)
      induction nameOf t using Option.casesOn with
      | none => exact q
      | some y => exact List.mem_cons_of_mem _ q
    rw [List.filterMap_cons] at h
    induction e : nameAt loc n t using Option.casesOn with
    | none => rw [e] at h; exact key (nameAt_in h)
    | some y =>
      rw [e] at h
      rcases List.mem_cons.mp h with rfl | h
      · show x ∈ (match nameOf t with
          | some x => x :: namesOf ts
          | none => namesOf ts)
        rw [nameAt_name e]
        exact List.mem_cons_self
      · exact key (nameAt_in h)
theorem swap_in {loc : Str → Bool} {ts : List Expr} {e : Expr} {names : List Str} (h : swapNames loc ts e = some (some names)) : ∀ x ∈ names, x ∈ namesOf ts := by
  unfold swapNames at h
  induction q : tupleOf e using Option.casesOn with
  | none => rw [q] at h; cases h
  | some vs =>
    rw [q] at h
    unfold swapPick at h
    dsimp only at h
    generalize noSwap _ _ _ _ = a at h
    generalize vs.all (constantsAlone 8) = b at h
    induction a using Bool.casesOn with
    | true => cases h
    | false => induction b using Bool.casesOn with
      | true => exact (no_ns h).elim
      | false => cases h; exact fun x q => nameAt_in q

theorem erase_le {ws : List Str} {ρ ρ' ρ'' : LEnv} (l : ρ.Le ρ') (f : Fr' ws ρ' ρ'') : (erase ws ρ).Le ρ'' := by
  refine ⟨f.names.trans l.names, fun y v h => ?_, fun y v h => ?_⟩
  · have h : (match ws.contains y with | true => none | false => ρ.locals y) = some v := h
    induction e : ws.contains y using Bool.casesOn with
    | true => rw [e] at h; exact (no_ns h).elim
    | false =>
      rw [e] at h
      rw [f.loc y fun q => by rw [List.contains_iff_mem.mpr q] at e; cases e]
      exact l.loc _ _ h
  · have h : (match ws.contains y with | true => none | false => ρ.cells y) = some v := h
    induction e : ws.contains y using Bool.casesOn with
    | true => rw [e] at h; exact (no_ns h).elim
    | false =>
      rw [e] at h
      rw [f.cel y fun q => by rw [List.contains_iff_mem.mpr q] at e; cases e]
      exact l.cel _ _ h

noncomputable abbrev SPost (ws : List Str) (ρ' : LEnv) (Q : QP (AFlow × LEnv)) : QP (AFlow × LEnv) := fun r σ => ∃ ρ1, LEnv.Le ρ1 r.2 ∧ Fr' ws ρ' r.2 ∧ Q (r.1, ρ1) σ
noncomputable def SndS (ks : Stmt → LEnv → KM (AFlow × LEnv)) (es : Stmt → LEnv → M (AFlow × LEnv)) (w : Stmt → List Str) : Prop :=
  ∀ s ρ ρ' σ Q X, LEnv.Le ρ ρ' → ks s ρ σ Q X → W (es s ρ') σ (SPost (w s) ρ' Q) X
noncomputable def SndB (ks : List Stmt → LEnv → KM (AFlow × LEnv)) (es : List Stmt → LEnv → M (AFlow × LEnv)) (w : List Stmt → List Str) : Prop :=
  ∀ s ρ ρ' σ Q X, LEnv.Le ρ ρ' → ks s ρ σ Q X → W (es s ρ') σ (SPost (w s) ρ' Q) X
theorem block_W {ks : Stmt → LEnv → KM (AFlow × LEnv)} {es : Stmt → LEnv → M (AFlow × LEnv)} {w : Stmt → List Str} (h : SndS ks es w) : SndB (kBlock ks) (runBlock es) (asgL w)
  | [], ρ, ρ', σ, Q, X, l, k => ⟨ρ, l, Fr'.refl _ _, k⟩
  | s :: r, ρ, ρ', σ, Q, X, l, k => by
    refine W_then (h _ _ _ _ _ _ l (show ks s ρ σ _ X from k)) fun x σ' q => ?_
    obtain ⟨ρ1, l1, f1, q⟩ := q
    obtain ⟨fl, ρ2⟩ := x
    induction fl using AFlow.casesOn with
    | next =>
      refine W_imp (block_W h r _ _ _ _ _ l1 q) fun y σ' q => ?_
      obtain ⟨ρ3, l3, f3, q⟩ := q
      exact ⟨ρ3, l3, (f1.mono fun y q => List.mem_append_left _ q).trans (f3.mono fun y q => List.mem_append_right _ q), q⟩
    | ret v => exact ⟨ρ1, l1, f1.mono fun y q => List.mem_append_left _ q, q⟩
theorem while_W {kt : LEnv → KM Bool} {mt : LEnv → M Bool} {kr : LEnv → KM (AFlow × LEnv)} {mr : List Stmt → LEnv → M (AFlow × LEnv)} {b : List Stmt} {ws : List Str}
    (ht : ∀ ρ ρ' σ Q X, LEnv.Le ρ ρ' → kt ρ σ Q X → W (mt ρ') σ Q X) (hr : ∀ ρ ρ' σ Q X, LEnv.Le ρ ρ' → kr ρ σ Q X → W (mr b ρ') σ (SPost ws ρ' Q) X) :
    ∀ (n : Nat) (ρ ρ' : LEnv) (σ : AHeap) (Q : QP (AFlow × LEnv)) (X : XP), LEnv.Le ρ ρ' → kWhile kt kr n ρ σ Q X → W (whileLoop mt mr b n ρ') σ (SPost ws ρ' Q) X
  | 0, _, _, _, _, _, _, k => k.elim
  | n + 1, ρ, ρ', σ, Q, X, l, k => by
    refine W_then (ht _ _ _ _ _ l (show kt ρ σ _ X from k)) fun t σ k => ?_
    induction t using Bool.casesOn with
    | false => exact ⟨ρ, l, Fr'.refl _ _, k⟩
    | true =>
      rw [if_pos rfl]
      refine W_then (hr _ _ _ _ _ l (show kr ρ σ _ X from k)) fun x σ' q => ?_
      obtain ⟨ρ1, l1, f1, q⟩ := q
      obtain ⟨fl, ρ2⟩ := x
      induction fl using AFlow.casesOn with
      | next =>
        refine W_imp (while_W ht hr n _ _ _ _ _ l1 q) fun y σ' q => ?_
        obtain ⟨ρ3, l3, f3, q⟩ := q
        exact ⟨ρ3, l3, f1.trans f3, q⟩
      | ret v => exact ⟨ρ1, l1, f1, q⟩
theorem for_W {mr : List Stmt → LEnv → M (AFlow × LEnv)} {target : Expr} {b : List Stmt} {src : Src} {body : AV → KM (Option AV)} {ws : List Str} {ρ ρ' : LEnv} (l : ρ.Le ρ') (ht : ∀ y ∈ tgtNames target, y ∈ ws)
    (hb : ∀ v σ Q X, body v σ Q X → ∃ ρ1, bindTarget (erase ws ρ) target v = some ρ1 ∧ ∀ ρ2, ρ1.Le ρ2 → W (mr b ρ2) σ (fun r σ => Fr' ws ρ2 r.2 ∧ Q r.1.opt σ) X) :
    ∀ (fuel k : Nat) (ρ2 : LEnv) (σ : AHeap) (Q : QP (Option AV)) (X : XP), Fr' ws ρ' ρ2 → loopF body src fuel k σ Q X →
      W (forLoop mr target b src fuel k ρ2) σ (fun r σ => Fr' ws ρ' r.2 ∧ Q r.1.opt σ) X
  | 0, _, _, _, _, _, _, k => k.elim
  | fuel + 1, k, ρ2, σ, Q, X, f, h => by
    unfold loopF at h
    show W (srcNext src k >>= _) σ _ X
    refine W_then h fun o σ h => ?_
    induction o using Option.casesOn with
    | none => exact ⟨f, h⟩
    | some v =>
      obtain ⟨ρ1, e1, h⟩ := hb _ _ _ _ h
      obtain ⟨ρ3, e3, l3⟩ := (erase_le l f).bindTarget e1
      show W (liftO (bindTarget ρ2 target v) >>= _) σ _ X
      rw [e3, W_bind, W_lift]
      refine W_then (h ρ3 l3) fun r σ q => ?_
      obtain ⟨f4, q⟩ := q
      have f5 : Fr' ws ρ' r.2 := (f.trans ((Fr'.bindTarget e3).mono ht)).trans f4
      obtain ⟨fl, ρ4⟩ := r
      induction fl using AFlow.casesOn with
      | next => exact for_W l ht hb fuel (k + 1) _ _ _ _ f5 q
      | ret v => exact ⟨f5, q⟩
theorem try_W {m : M (AFlow × LEnv)} {ρ : LEnv} {σ : AHeap} {Q : QP (AFlow × LEnv)} {X : XP} (h : W m σ Q (fun σ' => Q (.ret .none, ρ) σ')) : W (tryBody m ρ) σ Q X := by
  unfold W at h
  unfold W tryBody
  cases e : m σ <;> rw [e] at h <;> exact h

section
variable {T : Tabs} {c : Callee} {kc : KCallee} {k : KEv} {ev : Ev} {kr : List Stmt → LEnv → KM (AFlow × LEnv)} {mr : List Stmt → LEnv → M (AFlow × LEnv)} {ws : List Stmt → List Str}
theorem faultName_le {ρ ρ' : LEnv} (l : ρ.Le ρ') (x : Str) : faultName T ρ' x = faultName T ρ x := by unfold faultName; rw [l.names]
theorem real_loop {body : AV → KM (Option AV)} {src : Src} {σ : AHeap} {Q : QP (Option AV)} {X : XP} (h : realLoops.loop body src σ Q X) : loopF body src loopFuel 0 σ Q X := h
theorem kFor_W (S : Snd k ev) (B : SndB kr mr ws) {target iter : Expr} {body : List Stmt} {pos : Pos} {ρ ρ' : LEnv} {σ : AHeap} {Q : QP (AFlow × LEnv)} {X : XP} (l : ρ.Le ρ') (h : kFor T realLoops k kr ws target iter body ρ σ Q X) :
    W (stepS T ev mr (.For target iter body [] pos) ρ') σ (SPost (tgtNames target ++ ws body) ρ' Q) X := by
  unfold kFor at h
  show W (iterSrc T ev.e ρ' iter >>= _) σ _ X
  refine W_then (kSrc_W l (fun x σ Q X => S.e _ _ _ _ _ _ l) h) fun src σ h => ?_
  obtain ⟨h1, h⟩ := kIf_true h
  rw [if_pos h1]
  have h := real_loop h
  have key := for_W (mr := mr) (target := target) (b := body) (src := src) (ws := tgtNames target ++ ws body) (ρ := ρ) (ρ' := ρ') l (fun y q => List.mem_append_left _ q)
    (body := fun v σ Q X => kBind (erase (tgtNames target ++ ws body) ρ) target v fun ρ' => kr body ρ' σ (fun x σ => Q x.1.opt σ) X) (by
      intro v σ Q X h
      obtain ⟨ρ1, e1, h⟩ := kBind_iff h
      refine ⟨ρ1, e1, fun ρ2 l2 => W_imp (B _ _ _ _ _ _ l2 h) fun r σ q => ?_⟩
      obtain ⟨ρ3, l3, f3, q⟩ := q
      refine ⟨f3.mono fun y q => List.mem_append_right _ q, ?_⟩
      obtain ⟨fl, ρ4⟩ := r
      cases fl <;> exact q) loopFuel 0 ρ' σ _ X (Fr'.refl _ _) h
  refine W_imp key fun r σ q => ?_
  obtain ⟨f, q⟩ := q
  refine ⟨_, erase_le l f, f, ?_⟩
  obtain ⟨fl, ρ4⟩ := r
  cases fl <;> exact q
theorem stepS_W (S : Snd k ev) (B : SndB kr mr ws) {d : Nat} (hw : ws = asgL (asg d)) : SndS (kStepS T realLoops k kr ws) (stepS T ev mr) (asg (d + 1)) := by
  intro s ρ ρ' σ Q X l h
  have he : ∀ x σ Q X, k.e x ρ σ Q X → W (ev.e x ρ') σ Q X := fun x σ Q X => S.e _ _ _ _ _ _ l
  induction s using PySem.Stmt.casesOn with
  | Expr v p =>
    induction v using PySem.Expr.casesOn with
    | Call f args ks p => exact W_then (he _ _ _ _ h) fun v σ h => ⟨ρ, l, Fr'.refl _ _, h⟩
    | _ => exact h.elim
  | Return o p =>
    induction o using Option.casesOn with
    | none => exact ⟨ρ, l, Fr'.refl _ _, h⟩
    | some e => exact W_then (he _ _ _ _ h) fun v σ h => ⟨ρ, l, Fr'.refl _ _, h⟩
  | Assign ts e p =>
    induction ts using List.casesOn with
    | nil => exact h.elim
    | cons t r =>
      induction r using List.casesOn with
      | cons _ _ => cases t <;> exact h.elim
      | nil =>
        induction t using PySem.Expr.casesOn with
        | Name x q =>
          refine W_then (he _ _ _ _ h) fun v σ h => ?_
          obtain ⟨ρ1, e1, h⟩ := kSome_iff h
          obtain ⟨ρ2, e2, l2⟩ := l.set e1
          show W (liftO (ρ'.set _ _) >>= _) σ _ X
          rw [e2, W_bind, W_lift]
          exact ⟨ρ1, l2, Fr'.set e2, h⟩
        | Tuple ts k' q =>
          obtain ⟨h1, h⟩ := kIf_true h
          show W (if _ then _ else _) σ _ X
          rw [l.names, if_pos h1]
          induction q : swapNames (fun id => ρ.names.lookup id == some .local) ts e using Option.casesOn with
          | none => rw [q] at h; exact h.elim
          | some o =>
            rw [q] at h
            induction o using Option.casesOn with
            | none =>
              refine W_then (he _ _ _ _ h) fun v σ h => ?_
              obtain ⟨ρ1, e1, h⟩ := kBind_iff h
              obtain ⟨ρ2, e2, l2⟩ := l.bindTarget e1
              rw [e2, W_bind, W_lift]
              exact ⟨ρ1, l2, Fr'.bindTarget e2, h⟩
            | some names =>
              refine W_then (he _ _ _ _ h) fun v σ h => ?_
              cases v <;> first | exact h.elim | skip
              obtain ⟨ρ1, e1, h⟩ := kSome_iff h
              obtain ⟨ρ2, e2, l2⟩ := l.bindArgs e1
              show W (liftO (bindArgs _ _ _) >>= _) σ _ X
              rw [e2, W_bind, W_lift]
              exact ⟨ρ1, l2, (Fr'.bindArgs e2).mono fun y z => swap_in q y (List.mem_reverse.mp z), h⟩
        | Attribute o x q =>
          obtain ⟨h1, h⟩ := kIf_true h
          show W (if _ then _ else _) σ _ X
          rw [if_pos h1]
          exact W_then (he _ _ _ _ h) fun v σ h => W_then (he _ _ _ _ h) fun o σ h => W_then h fun _ σ h => ⟨ρ, l, Fr'.refl _ _, h⟩
        | Subscript o i q =>
          obtain ⟨h1, h⟩ := kIf_true h
          show W (if _ then _ else _) σ _ X
          rw [if_pos h1]
          exact W_then (he _ _ _ _ h) fun v σ h => W_then (he _ _ _ _ h) fun o σ h => W_then (he _ _ _ _ h) fun i σ h => W_then h fun _ σ h => ⟨ρ, l, Fr'.refl _ _, h⟩
        | _ => exact h.elim
  | If t b o p =>
    refine W_then (S.t _ _ _ _ _ _ l h) fun t σ h => ?_
    subst hw
    induction t using Bool.casesOn with
    | true =>
      refine W_imp (B _ _ _ _ _ _ l (show kr _ ρ σ Q X from h)) fun r σ q => ?_
      obtain ⟨ρ1, l1, f1, q⟩ := q
      exact ⟨ρ1, l1, f1.mono fun y q => List.mem_append_left _ q, q⟩
    | false =>
      refine W_imp (B _ _ _ _ _ _ l (show kr _ ρ σ Q X from h)) fun r σ q => ?_
      obtain ⟨ρ1, l1, f1, q⟩ := q
      exact ⟨ρ1, l1, f1.mono fun y q => List.mem_append_right _ q, q⟩
  | While t b o p =>
    induction o using List.casesOn with
    | nil =>
      subst hw
      exact while_W (fun ρ ρ' σ Q X l => S.t _ _ _ _ _ _ l) (fun ρ ρ' σ Q X l => B _ _ _ _ _ _ l) 5 _ _ _ _ _ l h
    | cons _ _ => exact h.elim
  | For t i b o p =>
    induction o using List.casesOn with
    | nil =>
      subst hw
      exact kFor_W S B l h
    | cons _ _ => exact h.elim
  | Raise e c p =>
    change (match raiseForm e c with | some (x, a) => _ | none => _ : KM (AFlow × LEnv)) σ Q X at h
    induction q : raiseForm e c using Option.casesOn with
    | none => rw [q] at h; exact h.elim
    | some r =>
      obtain ⟨x, a⟩ := r
      rw [q] at h
      obtain ⟨h1, h⟩ := kIf_true h
      show W (match raiseForm e c with | some (x, a) => _ | none => _) σ _ X
      rw [q]
      show W (if _ then _ else _) σ _ X
      rw [faultName_le l, if_pos h1]
      refine W_then (he _ _ _ _ h) fun v σ h => ?_
      cases v <;> first | exact h.elim | exact h
  | Try b hh o f p =>
    change (match tryForm b hh o f with | some (e, x) => _ | none => _ : KM (AFlow × LEnv)) σ Q X at h
    induction q : tryForm b hh o f using Option.casesOn with
    | none => rw [q] at h; exact h.elim
    | some r =>
      obtain ⟨e, x⟩ := r
      rw [q] at h
      obtain ⟨h1, h⟩ := kIf_true h
      show W (match tryForm b hh o f with | some (e, x) => _ | none => _) σ _ X
      rw [q]
      show W (if _ then _ else _) σ _ X
      rw [faultName_le l, if_pos h1]
      refine try_W ?_
      refine W_then (W_mono (he _ _ _ _ h) (fun v σ h => ?_) (fun σ h => ?_)) fun v σ h => h
      · exact ⟨ρ, l, Fr'.refl _ _, h⟩
      · exact ⟨ρ, l, Fr'.refl _ _, h⟩
  | _ => exact h.elim
theorem evS_W (hC : SndC kc c) : ∀ d, SndS (kEvS T realLoops kc d) (evS T c d) (asg d)
  | 0 => fun _ _ _ _ _ _ _ h => h.elim
  | d + 1 => stepS_W (at_W hC synDepth) (block_W (evS_W hC d)) rfl
theorem enter_W (hC : SndC kc c) {fi : FunInfo} {args : List AV} {σ : AHeap} {Q : QP AV} {X : XP} (h : kEnter T realLoops kc fi args σ Q X) : W (enter T c fi args) σ Q X := by
  unfold kEnter at h
  obtain ⟨ρ, e, h⟩ := kSome_iff h
  unfold enter
  rw [e, W_bind, W_lift]
  refine W_then (block_W (evS_W hC stmtDepth) _ _ _ _ _ _ (LEnv.Le.refl _) h) fun r σ q => ?_
  obtain ⟨ρ1, l1, f1, q⟩ := q
  obtain ⟨fl, ρ2⟩ := r
  cases fl <;> exact q
end
@[irreducible] noncomputable def CW (n : Nat) (a : Addr) (args : List AV) (σ : AHeap) (Q : QP AV) (X : XP) : Prop := W (callF T funAt n a args) σ Q X
theorem CW_eq {n : Nat} {a : Addr} {args : List AV} {σ : AHeap} {Q : QP AV} {X : XP} : CW n a args σ Q X = W (callF T funAt n a args) σ Q X := by unfold CW; rfl
noncomputable abbrev cw (n : Nat) : KCallee := CW n
theorem cw_snd (n : Nat) : SndC (cw n) (callF T funAt n) := fun _ _ _ _ _ h => CW_eq ▸ h
theorem call_W {kc : KCallee} {n : Nat} (hC : SndC kc (callF T funAt n)) {a : Addr} {fi : FunInfo} (hf : funAt a = some fi) {args : List AV} {σ : AHeap} {Q : QP AV} {X : XP} (h : kEnter T realLoops kc fi args σ Q X) :
    CW (n + 1) a args σ Q X := by
  rw [CW_eq, callF_fun hf]; exact enter_W hC h
end Mine
end
section
namespace Mine
open PySem

noncomputable def fi0 : FunInfo := ⟨"", ⟨[], [], none, [], [], none, []⟩, [], { kind := .function, names := [], isGenerator := false, isCoroutine := false, more := [] }⟩
noncomputable def fiAt (k : Nat) : FunInfo := match theBody[k]? with
  | some (.FunctionDef n a b _ _ _ s _ _ _) => ⟨n, a, b, s⟩
  | _ => fi0
noncomputable def fiIn (k j : Nat) : FunInfo := match theBody[k]? with
  | some (.ClassDef _ _ _ body _ _ _ _ _ _ _) => (match body[j]? with
    | some (.FunctionDef n a b _ _ _ s _ _ _) => ⟨n, a, b, s⟩
    | _ => fi0)
  | _ => fi0
noncomputable def tabE : List (Addr × FunInfo) := [(61, fiAt 5), (68, fiAt 6), (75, fiAt 7), (82, fiAt 8), (89, fiAt 9), (96, fiAt 10), (103, fiAt 11), (171, fiAt 15), (176, fiAt 16), (183, fiAt 17), (190, fiAt 18), (197, fiAt 19), (202, fiAt 20), (240, fiAt 26), (290, fiAt 31), (297, fiAt 32), (304, fiAt 33), (311, fiAt 34), (316, fiAt 35), (323, fiAt 36), (328, fiAt 37), (377, fiAt 41), (384, fiAt 42), (391, fiAt 43), (398, fiAt 44), (405, fiAt 45), (412, fiAt 46), (417, fiAt 47), (422, fiAt 48), (429, fiAt 49), (436, fiAt 50), (443, fiAt 51), (450, fiAt 52), (457, fiAt 53), (462, fiAt 54), (117, fiIn 13 0), (138, fiIn 14 0), (219, fiIn 24 0), (255, fiIn 29 0), (276, fiIn 30 0), (349, fiIn 39 0), (226, fiIn 24 1)]
theorem funTab_eq : funTab = tabE := by kernel_rfl
theorem funAt_of {a : Addr} {fi : Option FunInfo} (h : tabE.lookup a = fi) : funAt a = fi := by unfold funAt; rw [funTab_eq]; exact h
theorem fu_61 : funAt 61 = some (fiAt 5) := funAt_of rfl
theorem fu_68 : funAt 68 = some (fiAt 6) := funAt_of rfl
theorem fu_75 : funAt 75 = some (fiAt 7) := funAt_of rfl
theorem fu_82 : funAt 82 = some (fiAt 8) := funAt_of rfl
theorem fu_89 : funAt 89 = some (fiAt 9) := funAt_of rfl
theorem fu_96 : funAt 96 = some (fiAt 10) := funAt_of rfl
theorem fu_103 : funAt 103 = some (fiAt 11) := funAt_of rfl
theorem fu_171 : funAt 171 = some (fiAt 15) := funAt_of rfl
theorem fu_176 : funAt 176 = some (fiAt 16) := funAt_of rfl
theorem fu_183 : funAt 183 = some (fiAt 17) := funAt_of rfl
theorem fu_190 : funAt 190 = some (fiAt 18) := funAt_of rfl
theorem fu_197 : funAt 197 = some (fiAt 19) := funAt_of rfl
theorem fu_202 : funAt 202 = some (fiAt 20) := funAt_of rfl
theorem fu_240 : funAt 240 = some (fiAt 26) := funAt_of rfl
theorem fu_290 : funAt 290 = some (fiAt 31) := funAt_of rfl
theorem fu_297 : funAt 297 = some (fiAt 32) := funAt_of rfl
theorem fu_304 : funAt 304 = some (fiAt 33) := funAt_of rfl
theorem fu_311 : funAt 311 = some (fiAt 34) := funAt_of rfl
theorem fu_316 : funAt 316 = some (fiAt 35) := funAt_of rfl
theorem fu_323 : funAt 323 = some (fiAt 36) := funAt_of rfl
theorem fu_328 : funAt 328 = some (fiAt 37) := funAt_of rfl
theorem fu_377 : funAt 377 = some (fiAt 41) := funAt_of rfl
theorem fu_384 : funAt 384 = some (fiAt 42) := funAt_of rfl
theorem fu_391 : funAt 391 = some (fiAt 43) := funAt_of rfl
theorem fu_398 : funAt 398 = some (fiAt 44) := funAt_of rfl
theorem fu_405 : funAt 405 = some (fiAt 45) := funAt_of rfl
theorem fu_412 : funAt 412 = some (fiAt 46) := funAt_of rfl
theorem fu_417 : funAt 417 = some (fiAt 47) := funAt_of rfl
theorem fu_422 : funAt 422 = some (fiAt 48) := funAt_of rfl
theorem fu_429 : funAt 429 = some (fiAt 49) := funAt_of rfl
theorem fu_436 : funAt 436 = some (fiAt 50) := funAt_of rfl
theorem fu_443 : funAt 443 = some (fiAt 51) := funAt_of rfl
theorem fu_450 : funAt 450 = some (fiAt 52) := funAt_of rfl
theorem fu_457 : funAt 457 = some (fiAt 53) := funAt_of rfl
theorem fu_462 : funAt 462 = some (fiAt 54) := funAt_of rfl
theorem fu_117 : funAt 117 = some (fiIn 13 0) := funAt_of rfl
theorem fu_138 : funAt 138 = some (fiIn 14 0) := funAt_of rfl
theorem fu_219 : funAt 219 = some (fiIn 24 0) := funAt_of rfl
theorem fu_255 : funAt 255 = some (fiIn 29 0) := funAt_of rfl
theorem fu_276 : funAt 276 = some (fiIn 30 0) := funAt_of rfl
theorem fu_349 : funAt 349 = some (fiIn 39 0) := funAt_of rfl
theorem fu_226 : funAt 226 = some (fiIn 24 1) := funAt_of rfl
theorem fu_120 : funAt 120 = none := funAt_of rfl
theorem in_120 : T.initAt 120 = some 117 := by kernel_rfl
theorem fu_162 : funAt 162 = none := funAt_of rfl
theorem in_162 : T.initAt 162 = some 138 := by kernel_rfl
theorem fu_229 : funAt 229 = none := funAt_of rfl
theorem in_229 : T.initAt 229 = some 219 := by kernel_rfl
theorem fu_258 : funAt 258 = none := funAt_of rfl
theorem in_258 : T.initAt 258 = some 255 := by kernel_rfl
theorem fu_279 : funAt 279 = none := funAt_of rfl
theorem in_279 : T.initAt 279 = some 276 := by kernel_rfl
theorem fu_366 : funAt 366 = none := funAt_of rfl
theorem in_366 : T.initAt 366 = some 349 := by kernel_rfl
end Mine
end
section
namespace Mine
open PySem

noncomputable def inl (a : Addr) : Option FunInfo :=
  if a = 61 then some (fiAt 5) else if a = 68 then some (fiAt 6) else if a = 75 then some (fiAt 7) else if a = 82 then some (fiAt 8) else if a = 89 then some (fiAt 9) else if a = 96 then some (fiAt 10)
  else if a = 290 then some (fiAt 31) else if a = 391 then some (fiAt 43) else none
theorem inl_at {a : Addr} {fi : FunInfo} (h : inl a = some fi) : funAt a = some fi := by
  unfold inl at h
  repeat' split at h
  · cases h; subst a; exact fu_61
  · cases h; subst a; exact fu_68
  · cases h; subst a; exact fu_75
  · cases h; subst a; exact fu_82
  · cases h; subst a; exact fu_89
  · cases h; subst a; exact fu_96
  · cases h; subst a; exact fu_290
  · cases h; subst a; exact fu_391
  · exact (no_ns h).elim
noncomputable def ctor (a : Addr) (args : List AV) : Option (List (Str × AV)) := match args with
  | [v, k, d, r] => if a = 120 ∨ a = 258 then some [("name", v), ("kind", k), ("default", d), ("is_rest", r)] else none
  | _ => none
noncomputable def kcI (L : KLoops) (kc : Nat → KCallee) : Nat → KCallee
  | 0 => kc 0
  | d + 1 => fun a args σ Q X => match inl a with
    | some fi => kEnter T L (kcI L kc d) fi args σ Q X
    | none => match ctor a args with
      | some l => Q (.obj σ.length) (σ ++ [.inst a l])
      | none => kc (d + 1) a args σ Q X
noncomputable abbrev cws (n : Nat) : Nat → KCallee := fun d => cw (n + d)

theorem callF_cls {n : Nat} {a f : Addr} {args : List AV} (h1 : funAt a = none) (h2 : T.initAt a = some f) : callF T funAt (n + 1) a args = (do
    let i ← allocM (.inst a [])
    match ← callF T funAt n f (.obj i :: args) with
    | .none => pure (.obj i)
    | _ => failM) := by
  simp only [callF, h1, h2]
  all_goals rfl
theorem W_setF_last {σ : AHeap} {X : XP} {c : Addr} {l : List (Str × AV)} {x : Str} {v : AV} {Q : Unit → AHeap → Prop} (h : (T.fieldOk c x && decide (l.length < sizeCap)) = true) :
    W (setF T.fieldOk (.obj σ.length) x v) (σ ++ [.inst c l]) Q X = Q () (σ ++ [.inst c (putF x v l)]) := by
  unfold setF
  simp only [W_bind]
  rw [W_get (o := .inst c l) (by simp)]
  simp only [h, if_true]
  rw [W_set (by simp)]
  simp
theorem sh_Param (L : KLoops) (kc : KCallee) (a b c d o : AV) (σ : AHeap) (Q : QP AV) (X : XP) :
    kEnter T L kc (fiIn 13 0) [o, a, b, c, d] σ Q X = W (setF T.fieldOk o "name" a) σ (fun _ σ => W (setF T.fieldOk o "kind" b) σ (fun _ σ => W (setF T.fieldOk o "default" c) σ (fun _ σ => W (setF T.fieldOk o "is_rest" d) σ (fun _ σ => Q .none σ) X) X) X) X := by kernel_rfl
theorem sh_Argument (L : KLoops) (kc : KCallee) (a b c d o : AV) (σ : AHeap) (Q : QP AV) (X : XP) :
    kEnter T L kc (fiIn 29 0) [o, a, b, c, d] σ Q X = W (setF T.fieldOk o "name" a) σ (fun _ σ => W (setF T.fieldOk o "kind" b) σ (fun _ σ => W (setF T.fieldOk o "default" c) σ (fun _ σ => W (setF T.fieldOk o "is_rest" d) σ (fun _ σ => Q .none σ) X) X) X) X := by kernel_rfl
theorem put4 (a : Addr) (v k d r : AV) (h : (T.fieldOk a "name" && T.fieldOk a "kind" && T.fieldOk a "default" && T.fieldOk a "is_rest") = true) (σ : AHeap) (Q : QP AV) (X : XP) :
    W (setF T.fieldOk (.obj σ.length) "name" v) (σ ++ [.inst a []]) (fun _ σ' => W (setF T.fieldOk (.obj σ.length) "kind" k) σ' (fun _ σ' => W (setF T.fieldOk (.obj σ.length) "default" d) σ' (fun _ σ' => W (setF T.fieldOk (.obj σ.length) "is_rest" r) σ' (fun _ σ' => Q .none σ') X) X) X) X
     = Q .none (σ ++ [.inst a [("name", v), ("kind", k), ("default", d), ("is_rest", r)]]) := by
  simp only [Bool.and_eq_true] at h
  obtain ⟨⟨⟨h1, h2⟩, h3⟩, h4⟩ := h
  rw [W_setF_last (by rw [h1]; rfl)]
  show W _ (σ ++ [.inst a [("name", v)]]) _ _ = _
  rw [W_setF_last (by rw [h2]; rfl)]
  rw [show putF "kind" k [("name", v)] = [(("name" : Str), v), ("kind", k)] from by kernel_rfl]
  rw [W_setF_last (by rw [h3]; rfl)]
  rw [show putF "default" d [(("name" : Str), v), ("kind", k)] = [(("name" : Str), v), ("kind", k), ("default", d)] from by kernel_rfl]
  rw [W_setF_last (by rw [h4]; rfl)]
  rw [show putF "is_rest" r [(("name" : Str), v), ("kind", k), ("default", d)] = [(("name" : Str), v), ("kind", k), ("default", d), ("is_rest", r)] from by kernel_rfl]
theorem cls_W {n : Nat} {a f : Addr} {fi : FunInfo} {kc : KCallee} (h1 : funAt a = none) (h2 : T.initAt a = some f) (hf : funAt f = some fi) (hC : SndC kc (callF T funAt n)) {args : List AV} {σ : AHeap} {Q : QP AV} {X : XP}
    (h : kEnter T realLoops kc fi (.obj σ.length :: args) (σ ++ [.inst a []]) (fun v σ' => v = .none ∧ Q (.obj σ.length) σ') X) : CW (n + 2) a args σ Q X := by
  rw [CW_eq, callF_cls h1 h2, W_bind, W_alloc]
  refine W_then (CW_eq ▸ call_W hC hf h) fun v σ' q => ?_
  obtain ⟨rfl, q⟩ := q
  exact q
theorem kcI_W (n : Nat) : ∀ d, SndC (kcI realLoops (cws (n + 1)) d) (callF T funAt (n + 1 + d))
  | 0 => cw_snd (n + 1)
  | d + 1 => fun a args σ Q X h => by
    unfold kcI at h
    split at h
    · rename_i fi e
      exact CW_eq ▸ call_W (kcI_W n d) (inl_at e) h
    · split at h
      · rename_i l e
        rcases args with _ | ⟨v, _ | ⟨k, _ | ⟨d', _ | ⟨r, _ | ⟨_, _⟩⟩⟩⟩⟩
        · exact (no_ns e).elim
        · exact (no_ns e).elim
        · exact (no_ns e).elim
        · exact (no_ns e).elim
        · have e : (if a = 120 ∨ a = 258 then some [(("name" : Str), v), ("kind", k), ("default", d'), ("is_rest", r)] else none) = some l := e
          split at e
          · rename_i ha
            cases e
            rw [show n + 1 + (d + 1) = n + d + 2 by omega, ← CW_eq]
            rcases ha with rfl | rfl
            · refine cls_W (n := n + d) (kc := cw (n + d)) fu_120 in_120 fu_117 (cw_snd _) ?_
              rw [sh_Param]
              exact (put4 120 v k d' r (by kernel_rfl) σ (fun v σ' => v = .none ∧ Q (.obj σ.length) σ') X).mpr ⟨rfl, h⟩
            · refine cls_W (n := n + d) (kc := cw (n + d)) fu_258 in_258 fu_255 (cw_snd _) ?_
              rw [sh_Argument]
              exact (put4 258 v k d' r (by kernel_rfl) σ (fun v σ' => v = .none ∧ Q (.obj σ.length) σ') X).mpr ⟨rfl, h⟩
          · exact (no_ns e).elim
        · exact (no_ns e).elim
      · exact CW_eq ▸ h
theorem run_W {m d : Nat} (hm : d + 2 ≤ m) {a : Addr} {fi : FunInfo} (hf : funAt a = some fi) {args : List AV} {σ : AHeap} {Q : QP AV} {X : XP} (h : kEnter T realLoops (kcI realLoops (cws (m - d - 1)) d) fi args σ Q X) : CW m a args σ Q X := by
  obtain ⟨n, rfl⟩ : ∃ n, m = n + 1 + d + 1 := ⟨m - d - 2, by omega⟩
  rw [show n + 1 + d + 1 - d - 1 = n + 1 by omega] at h
  exact call_W (kcI_W n d) hf h
end Mine
end
section
namespace Mine
open PySem

inductive Nm where
  | x
  | y
  | z
noncomputable def Nm.str : Nm → Str
  | .x => "x"
  | .y => "y"
  | .z => "z"
inductive Core where
  | name (n : Nm)
  | kind (n : Nm)
  | alone
  | low
  | row
  | both
  | number
  | odd
inductive Dft where
  | no
  | kw
  | eq
structure Arg where
  core : Core
  rest : Bool
  dft : Dft
noncomputable abbrev eX (w : Str) (l : List AV) : AV := .tup [.str "expr", .str w, .tup l]
noncomputable abbrev sX (x : Str) : AV := .tup [.str "sym", .str x]
noncomputable abbrev iX (i : Int) : AV := .tup [.str "int", .int i]
noncomputable def Core.tree : Core → AV
  | .name n => sX n.str
  | .kind n => eX "::" [sX n.str, sX "Int64"]
  | .alone => eX "::" [sX "Int64"]
  | .low => sX "_"
  | .row => eX "tuple" [sX "p", sX "q"]
  | .both => eX "::" [eX "tuple" [sX "p", sX "q"], sX "Int64"]
  | .number => iX 3
  | .odd => eX "::" [iX 3, sX "Int64"]
noncomputable def restT (r : Bool) (t : AV) : AV := match r with
  | true => eX "..." [t]
  | false => t
noncomputable def Dft.tree (d : Dft) (t : AV) : AV := match d with
  | .no => t
  | .kw => eX "kw" [t, iX 1]
  | .eq => eX "=" [t, iX 1]
noncomputable def Dft.val : Dft → AV
  | .no => .none
  | _ => iX 1
noncomputable def Dft.has : Dft → Bool
  | .no => false
  | _ => true
noncomputable def Arg.tree (a : Arg) : AV := a.dft.tree (restT a.rest a.core.tree)
noncomputable def Core.nm : Core → Str
  | .name n => n.str
  | .kind n => n.str
  | _ => ""
noncomputable def Core.good : Core → Bool
  | .number => false
  | .odd => false
  | _ => true
noncomputable def Core.kindV : Core → AV
  | .kind _ => sX "Int64"
  | .alone => sX "Int64"
  | .both => sX "Int64"
  | _ => .none
noncomputable def Core.isRow : Core → Bool
  | .row => true
  | .both => true
  | _ => false
noncomputable abbrev rowT : AV := eX "tuple" [sX "p", sX "q"]
noncomputable def kHash (i : Int) (σ : AHeap) (Q : AV → AHeap → Prop) (X : XP) : Prop := W (callM (fun _ _ => failM) (.top (.type "str")) [.int i]) σ (fun s σ => W (binM .Add (.str "#") s) σ Q X) X
noncomputable abbrev paramO (a : Addr) (nm kd d : AV) (r : Bool) : AObj := .inst a [("name", nm), ("kind", kd), ("default", d), ("is_rest", .bool r)]
noncomputable def Arg.told (a : Arg) (at_ : Int) (σ : AHeap) (Q : QP AV) (X : XP) : Prop := match a.core.good, a.core.isRow with
  | false, _ => X σ
  | true, true => kHash (at_ + 1) σ (fun nm σ => Q (.tup [.obj σ.length, rowT]) (σ ++ [paramO 120 nm a.core.kindV a.dft.val a.rest])) X
  | true, false => Q (.tup [.obj σ.length, .none]) (σ ++ [paramO 120 (.str a.core.nm) a.core.kindV a.dft.val a.rest])
theorem told_param_sh (L : KLoops) (kc : Nat → KCallee) (a : Arg) (at_ : Int) (σ : AHeap) (Q : QP AV) (X : XP) : kEnter T L (kcI L kc 2) (fiAt 18) [a.tree, .int at_] σ Q X = a.told at_ σ Q X := by
  obtain ⟨c, r, d⟩ := a
  cases c with
  | name n => cases n <;> cases r <;> cases d <;> kernel_rfl
  | kind n => cases n <;> cases r <;> cases d <;> kernel_rfl
  | alone => cases r <;> cases d <;> kernel_rfl
  | low => cases r <;> cases d <;> kernel_rfl
  | row => cases r <;> cases d <;> kernel_rfl
  | both => cases r <;> cases d <;> kernel_rfl
  | number => cases r <;> cases d <;> kernel_rfl
  | odd => cases r <;> cases d <;> kernel_rfl
end Mine
end
section
namespace Mine
open PySem

noncomputable abbrev nl : AObj := .list []
noncomputable abbrev kM (o : AV) (x : Str) (σ : AHeap) (Q : QP MK) (X : XP) : Prop := W (methKind T.methAt o x) σ Q X
noncomputable abbrev kF (o : AV) (x : Str) (σ : AHeap) (Q : QP AV) (X : XP) : Prop := W (getF T.fieldOk o x) σ Q X
noncomputable abbrev kS (o : AV) (x : Str) (v : AV) (σ : AHeap) (Q : AHeap → Prop) (X : XP) : Prop := W (setF T.fieldOk o x v) σ (fun _ σ => Q σ) X
noncomputable abbrev kIs (op : CmpOp) (a b : AV) (σ : AHeap) (p q : AHeap → Prop) (X : XP) : Prop := W (cmpM op a b) σ (fun c σ => kTruth c fun t => kIf t (p σ) (q σ)) X
noncomputable abbrev kB (f : AV) (args : List AV) (σ : AHeap) (Q : QP AV) (X : XP) : Prop := W (callM (fun _ _ => failM) f args) σ Q X
noncomputable abbrev tyF (n : String) : AV := .top (.type n)
noncomputable abbrev blF (n : String) : AV := .top (.builtin n)
noncomputable abbrev k2 (v : AV) (K : AV → AV → Prop) : Prop := kIf (v.isTup && v.len == 2) (K (v.nth 0) (v.nth 1)) False
noncomputable abbrev k3 (v : AV) (K : AV → AV → AV → Prop) : Prop := kIf (v.isTup && v.len == 3) (K (v.nth 0) (v.nth 1) (v.nth 2)) False
noncomputable abbrev kNext (Q : QP AV) (K : AHeap → Prop) : QP (Option AV) := fun r σ => match r with
  | none => K σ
  | some v => Q v σ
theorem told_params_sh (L : KLoops) (kc : Nat → KCallee) (trees body : AV) (σ : AHeap) (Q : QP AV) (X : XP) : kEnter T L (kcI L kc 2) (fiAt 17) [trees, body] σ Q X =
    W (toSeq trees) (σ ++ [nl] ++ [nl]) (fun _ σ' => L.loop (fun v σ1 Q X =>
      k2 v fun at_ tree => kc 2 190 [tree, at_] σ1 (fun r σ1 => k2 r fun par pat =>
        kM (.obj σ.length) "append" σ1 (fun m σ1 => kMethM (kcI L kc 2) m (.obj σ.length) [par] σ1 (fun _ σ1 =>
          kIs .IsNot pat .none σ1
            (fun σ1 => kM (.obj (σ ++ [nl]).length) "append" σ1 (fun m σ1 => kF par "name" σ1 (fun nm σ1 =>
              kMethM (kcI L kc 2) m (.obj (σ ++ [nl]).length) [eX "local" [eX "=" [pat, .tup [.str "sym", nm]]]] σ1 (fun _ σ1 => Q none σ1) X) X) X)
            (fun σ1 => Q none σ1) X) X) X) X)
      (.enum trees) σ' (kNext Q fun σ1 => kIs .Eq (.obj (σ ++ [nl]).length) (.lst []) σ1 (fun σ1 => Q (.tup [.obj σ.length, body]) σ1)
          (fun σ1 => W (binM .Add (.obj (σ ++ [nl]).length) (.lst [body])) σ1 (fun l σ1 => kB (tyF "tuple") [l] σ1 (fun t σ1 => Q (.tup [.obj σ.length, .tup [.str "expr", .str "block", t]]) σ1) X) X) X) X) X := by kernel_rfl

noncomputable abbrev kRange (v : AV) (K : Nat → Prop) : Prop := match v with
  | .int n => 0 ≤ n ∧ n ≤ (sizeCap : Int) ∧ K n.toNat
  | _ => False
noncomputable abbrev kStr (v : AV) (P : Prop) : Prop := match v with
  | .str _ => P
  | _ => False
noncomputable abbrev kFT (o : AV) (x : Str) (σ : AHeap) (p q : AHeap → Prop) (X : XP) : Prop := kF o x σ (fun r σ => kTruth r fun t => kIf t (p σ) (q σ)) X
noncomputable def ordB (base : KM AV) (at_ : AV) (arg : KM AV) (σ : AHeap) (P : AHeap → Prop) (X : XP) : Prop :=
  kIs .Gt at_ (.int 0) σ (fun σ => base σ (fun ps σ => W (binM .Sub at_ (.int 1)) σ (fun b σ => W (itemM ps b) σ (fun pb σ => kF pb "default" σ (fun d σ => kIs .IsNot d .none σ
    (fun σ => arg σ (fun pa σ => kF pa "default" σ (fun d σ => kIs .Is d .none σ (fun σ => arg σ (fun pa σ => kF pa "is_rest" σ (fun r σ => kTruth r fun t => kIf (!t) (X σ) (P σ)) X) X) (fun σ => P σ) X) X) X)
    (fun σ => P σ) X) X) X) X) X) (fun σ => P σ) X
noncomputable def ordA (len : KM AV) (at_ : AV) (arg : KM AV) (σ : AHeap) (P : AHeap → Prop) (X : XP) : Prop :=
  arg σ (fun pa σ => kFT pa "is_rest" σ (fun σ => len σ (fun n σ => W (binM .Sub n (.int 1)) σ (fun m σ => kIs .Lt at_ m σ (fun σ => X σ)
    (fun σ => arg σ (fun pa σ => kF pa "default" σ (fun d σ => kIs .IsNot d .none σ (fun σ => X σ) (fun σ => P σ) X) X) X) X) X) X) (fun σ => P σ) X) X
theorem checked_sh (L : KLoops) (kc : Nat → KCallee) (f : AV) (σ : AHeap) (Q : QP AV) (X : XP) : kEnter T L (kcI L kc 2) (fiAt 20) [f] σ Q X =
    kF f "params" σ (fun p σ => kF f "keywords" σ (fun kw σ => W (binM .Add p kw) σ (fun s σ => W (toSeq s) σ (fun _ σ =>
      L.comp (fun v σ Q X => kF v "name" σ (fun nm σ => kIs .NotEq nm (.str "") σ (fun σ => kF v "name" σ (fun nm σ => Q (some nm) σ) X) (fun σ => Q none σ) X) X) (.seq s) σ (fun names σ =>
    kF f "binders" σ (fun b σ => W (toSeq b) σ (fun _ σ => L.comp (fun v σ Q X => k3 v fun a _ _ => Q (some a) σ) (.seq b) σ (fun vars σ =>
    L.loop (fun some_ σ Q X => W (toSeq some_) σ (fun _ σ => L.comp (fun v σ Q X => kM some_ "count" σ (fun m σ => kMethM (kcI L kc 2) m some_ [v] σ (fun c σ => kIs .Gt c (.int 1) σ (fun σ => Q (some v) σ) (fun σ => Q none σ) X) X) X)
        (.seq some_) σ (fun l σ => kIs .NotEq (.lst l) (.lst []) σ (fun σ => X σ) (fun σ => Q none σ) X) X) X) (.seq (.tup [.lst names, .lst vars])) σ (kNext Q fun σ =>
    kF f "params" σ (fun ps σ => kB (blF "len") [ps] σ (fun n σ => kRange n fun n =>
      L.loop (fun at_ σ Q X => ordA (fun σ Q X => kB (blF "len") [ps] σ Q X) at_ (fun σ Q X => W (itemM ps at_) σ Q X) σ
        (fun σ => ordB (fun σ Q X => Q ps σ) at_ (fun σ Q X => W (itemM ps at_) σ Q X) σ (fun σ => Q none σ) X) X) (.range n) σ (kNext Q fun σ =>
    kF f "keywords" σ (fun kw σ => W (toSeq kw) σ (fun _ σ => L.comp (fun v σ Q X => kFT v "is_rest" σ (fun σ => Q (some v) σ) (fun σ => Q none σ) X) (.seq kw) σ (fun l σ =>
      kIs .NotEq (.lst l) (.lst []) σ (fun σ => X σ) (fun σ => Q f σ) X) X) X) X) X) X) X) X) X) X) X) X) X) X) X) X := by kernel_rfl
theorem check_head_sh (L : KLoops) (kc : Nat → KCallee) (f : AV) (σ : AHeap) (Q : QP AV) (X : XP) : kEnter T L (kcI L kc 2) (fiAt 35) [f] σ Q X =
    kF f "arguments" σ (fun p σ => kF f "keywords" σ (fun kw σ => W (binM .Add p kw) σ (fun s σ => W (toSeq s) σ (fun _ σ =>
      L.comp (fun v σ Q X => kF v "name" σ (fun nm σ => Q (some nm) σ) X) (.seq s) σ (fun names σ =>
    kB (blF "len") [.lst names] σ (fun n σ => kRange n fun n =>
      L.loop (fun at_ σ Q X => W (itemM (.lst names) at_) σ (fun x σ => W (sliceM (.lst names) none (some at_)) σ (fun l σ => kIs .In x l σ
        (fun σ => W (itemM (.lst names) at_) σ (fun x σ => W (binM .Add (.str "an argument is told twice: ") x) σ (fun v σ => kStr v (X σ)) X) X) (fun σ => Q none σ) X) X) X) (.range n) σ (kNext Q fun σ =>
    kF f "arguments" σ (fun as σ => kB (blF "len") [as] σ (fun n σ => kRange n fun n =>
      L.loop (fun at_ σ Q X => kF f "arguments" σ (fun as σ => W (itemM as at_) σ (fun pa σ =>
        ordA (fun σ Q X => kF f "arguments" σ (fun as σ => kB (blF "len") [as] σ Q X) X) at_ (fun σ Q X => Q pa σ) σ
        (fun σ => ordB (fun σ Q X => kF f "arguments" σ Q X) at_ (fun σ Q X => Q pa σ) σ (fun σ => Q none σ) X) X) X) X) (.range n) σ (kNext Q fun σ =>
    kF f "keywords" σ (fun kw σ => W (toSeq kw) σ (fun _ σ => L.comp (fun v σ Q X => kFT v "is_rest" σ (fun σ => Q (some v) σ) (fun σ => Q none σ) X) (.seq kw) σ (fun l σ =>
      kIs .NotEq (.lst l) (.lst []) σ (fun σ => X σ) (fun σ => Q .none σ) X) X) X) X) X) X) X) X) X) X) X) X) X) X := by kernel_rfl
end Mine
end
section
namespace Mine
open PySem

theorem keywords_of_sh (L : KLoops) (kc : Nat → KCallee) (w ps : AV) (σ : AHeap) (Q : QP AV) (X : XP) : kEnter T L (kcI L kc 0) (fiAt 11) [.tup [.str "expr", w, ps]] σ Q X =
    W (sliceM ps (some (.int 1)) none) σ (fun as σ => kIs .NotEq as (.tup []) σ
      (fun σ => W (itemM as (.int 0)) σ (fun a0 σ => kc 0 75 [a0, .str "parameters"] σ (fun r σ => kTruth r fun t => kIf t
        (W (itemM as (.int 0)) σ (fun a0 σ => W (itemM a0 (.int 2)) σ (fun kw σ => W (sliceM as (some (.int 1)) none) σ (fun rest σ => Q (.tup [kw, rest]) σ) X) X) X)
        (Q (.tup [.tup [], as]) σ)) X) X)
      (fun σ => Q (.tup [.tup [], as]) σ) X) X := by kernel_rfl
theorem new_name_sh (L : KLoops) (kc : Nat → KCallee) (h : AV) (σ : AHeap) (Q : QP AV) (X : XP) : kEnter T L (kcI L kc 2) (fiAt 33) [h] σ Q X =
    kF h "arguments" σ (fun as σ => kB (blF "len") [as] σ (fun n σ => kF h "keywords" σ (fun kw σ => kB (blF "len") [kw] σ (fun m σ => W (binM .Add n m) σ (fun i σ => W (binM .Add i (.int 1)) σ (fun i σ =>
      kB (tyF "str") [i] σ (fun s σ => W (binM .Add (.str "#") s) σ Q X) X) X) X) X) X) X) X := by kernel_rfl
noncomputable def isX (t : AV) (u : Str) : KM AV := fun σ Q X => W (itemM t (.int 0)) σ (fun a σ => W (cmpM .Eq a (.str "expr")) σ (fun c σ => kTruth c fun t' => kIf t' (W (itemM t (.int 1)) σ (fun b σ => W (cmpM .Eq b (.str u)) σ Q X) X) (Q c σ)) X) X
theorem fill_head_sh (L : KLoops) (kc : Nat → KCallee) (h ts : AV) (σ : AHeap) (Q : QP AV) (X : XP) : kEnter T L (kcI L kc 2) (fiAt 34) [h, ts] σ Q X =
    W (toSeq ts) σ (fun _ σ => L.loop (fun v σ Q X => isX v "parameters" σ (fun c σ => kTruth c fun t => kIf t
        (W (itemM v (.int 2)) σ (fun kws σ => W (toSeq kws) σ (fun _ σ => L.loop (fun part σ Q X =>
          kF h "keywords" σ (fun o σ => kM o "append" σ (fun m σ => kc 2 297 [part, h] σ (fun a σ => kMethM (kcI L kc 2) m o [a] σ (fun _ σ => Q none σ) X) X) X) X) (.seq kws) σ
            (kNext (fun v σ => Q (some v) σ) fun σ => Q none σ) X) X) X)
        (kF h "arguments" σ (fun o σ => kM o "append" σ (fun m σ => kc 2 297 [v, h] σ (fun a σ => kMethM (kcI L kc 2) m o [a] σ (fun _ σ => Q none σ) X) X) X) X)) X)
      (.seq ts) σ (kNext Q fun σ => Q .none σ) X) X := by kernel_rfl

inductive Var where
  | sym (s : Bool)
  | up (s : Bool)
  | cmp (s ok : Bool)
  | bad (s : Bool)
noncomputable def stN (s : Bool) : Str := match s with
  | true => "S"
  | false => "T"
noncomputable def Var.nm : Var → Str
  | .sym s => stN s
  | .up s => stN s
  | .cmp s _ => stN s
  | .bad s => stN s
noncomputable def Var.good : Var → Bool
  | .cmp _ ok => ok
  | .bad _ => false
  | _ => true
noncomputable def Var.tree : Var → AV
  | .sym s => sX (stN s)
  | .up s => eX "<:" [sX (stN s), sX "Real"]
  | .cmp s true => eX "comparison" [sX "Int8", sX "<:", sX (stN s), sX "<:", sX "Real"]
  | .cmp s false => eX "comparison" [sX "Int8", sX ">:", sX (stN s), sX ">:", sX "Real"]
  | .bad _ => eX "<:" [iX 1, sX "Real"]
noncomputable def Var.lo : Var → AV
  | .cmp _ _ => sX "Int8"
  | _ => .none
noncomputable def Var.hi : Var → AV
  | .sym _ => .none
  | _ => sX "Real"
noncomputable def Var.told (v : Var) (σ : AHeap) (Q : QP AV) (X : XP) : Prop := match v.good with
  | true => Q (.tup [.str v.nm, v.lo, v.hi]) σ
  | false => X σ
theorem told_binder_sh (L : KLoops) (kc : Nat → KCallee) (v : Var) (σ : AHeap) (Q : QP AV) (X : XP) : kEnter T L (kcI L kc 2) (fiAt 19) [v.tree] σ Q X = v.told σ Q X := by
  rcases v with (s | s | ⟨s, ok⟩ | s)
  · cases s <;> kernel_rfl
  · cases s <;> kernel_rfl
  · cases s <;> cases ok <;> kernel_rfl
  · cases s <;> kernel_rfl
theorem bounds_of_sh (L : KLoops) (kc : Nat → KCallee) (v : Var) (σ : AHeap) (Q : QP AV) (X : XP) : kEnter T L (kcI L kc 2) (fiAt 26) [v.tree] σ Q X = v.told σ Q X := by
  rcases v with (s | s | ⟨s, ok⟩ | s)
  · cases s <;> kernel_rfl
  · cases s <;> kernel_rfl
  · cases s <;> cases ok <;> kernel_rfl
  · cases s <;> kernel_rfl

theorem read_kw (L : KLoops) (kc : Nat → KCallee) (t h : AV) (σ : AHeap) (Q : QP AV) (X : XP) : kEnter T L (kcI L kc 2) (fiAt 32) [eX "kw" [t, iX 1], h] σ Q X =
    kc 2 297 [t, h] σ (fun f σ => kS f "default" (iX 1) σ (fun σ => Q f σ) X) X := by kernel_rfl
theorem read_eq (L : KLoops) (kc : Nat → KCallee) (t h : AV) (σ : AHeap) (Q : QP AV) (X : XP) : kEnter T L (kcI L kc 2) (fiAt 32) [eX "=" [t, iX 1], h] σ Q X =
    kc 2 297 [t, h] σ (fun f σ => kS f "default" (iX 1) σ (fun σ => Q f σ) X) X := by kernel_rfl
theorem read_rest (L : KLoops) (kc : Nat → KCallee) (t h : AV) (σ : AHeap) (Q : QP AV) (X : XP) : kEnter T L (kcI L kc 2) (fiAt 32) [eX "..." [t], h] σ Q X =
    kc 2 297 [t, h] σ (fun f σ => kS f "is_rest" (.bool true) σ (fun σ => Q f σ) X) X := by kernel_rfl
noncomputable def Core.read (L : KLoops) (kc : Nat → KCallee) (c : Core) (h : AV) (σ : AHeap) (Q : QP AV) (X : XP) : Prop :=
  let mk (nm kd : AV) (σ : AHeap) : Prop := Q (.obj σ.length) (σ ++ [paramO 258 nm kd .none false])
  match c with
  | .name n => mk (.str n.str) .none σ
  | .kind n => kc 2 297 [sX n.str, h] σ (fun a σ => kF a "name" σ (fun nm σ => mk nm (sX "Int64") σ) X) X
  | .alone => kc 2 304 [h] σ (fun nm σ => mk nm (sX "Int64") σ) X
  | .low => kc 2 304 [h] σ (fun nm σ => mk nm .none σ) X
  | .row => kc 2 304 [h] σ (fun nm σ => kF h "patterns" (σ ++ [paramO 258 nm .none .none false]) (fun ps σ' => kM ps "append" σ' (fun m σ' => kF (.obj σ.length) "name" σ' (fun nm σ' =>
      kMethM (kcI L kc 2) m ps [.tup [rowT, nm]] σ' (fun _ σ' => Q (.obj σ.length) σ') X) X) X) X) X
  | .both => kc 2 297 [rowT, h] σ (fun a σ => kF a "name" σ (fun nm σ => mk nm (sX "Int64") σ) X) X
  | .number => X σ
  | .odd => kc 2 297 [iX 3, h] σ (fun a σ => kF a "name" σ (fun nm σ => mk nm (sX "Int64") σ) X) X
theorem read_core (L : KLoops) (kc : Nat → KCallee) (c : Core) (h : AV) (σ : AHeap) (Q : QP AV) (X : XP) : kEnter T L (kcI L kc 2) (fiAt 32) [c.tree, h] σ Q X = c.read L kc h σ Q X := by
  cases c with
  | name n => cases n <;> kernel_rfl
  | kind n => cases n <;> kernel_rfl
  | alone => kernel_rfl
  | low => kernel_rfl
  | row => kernel_rfl
  | both => kernel_rfl
  | number => kernel_rfl
  | odd => kernel_rfl
end Mine
end
section
namespace Mine
open PySem

theorem plain_sh (L : KLoops) (kc : KCallee) (o c p k b r y : AV) (σ : AHeap) (Q : QP AV) (X : XP) : kEnter T L kc (fiIn 14 0) [o, c, p, k, b, r, y] σ Q X =
    kS o "callee" c σ (fun σ => kS o "params" p σ (fun σ => kS o "keywords" k σ (fun σ => kS o "binders" b σ (fun σ => kS o "result" r σ (fun σ => kS o "body" y σ (fun σ => kS o "scope" .none σ (fun σ =>
      kS o "is_generated" (.bool false) σ (fun σ => kS o "has_patterns" (.bool false) σ (fun σ => kS o "trees" (.obj σ.length) (σ ++ [.dict []]) (fun σ => Q .none σ) X) X) X) X) X) X) X) X) X) X := by kernel_rfl
theorem supply_sh (L : KLoops) (kc : KCallee) (o : AV) (σ : AHeap) (Q : QP AV) (X : XP) : kEnter T L kc (fiIn 24 0) [o] σ Q X = kS o "many" (.int 0) σ (fun σ => Q .none σ) X := by kernel_rfl
theorem next_sh (L : KLoops) (kc : KCallee) (o : AV) (s : Bool) (σ : AHeap) (Q : QP AV) (X : XP) : kEnter T L kc (fiIn 24 1) [o, .str (stN s)] σ Q X =
    kF o "many" σ (fun m σ => W (binM .Add m (.int 1)) σ (fun m σ => kS o "many" m σ (fun σ => (stN s).length ≤ sizeCap ∧ ∃ y r, Txt.split (stN s) "." = y :: r ∧ W (binM .Add (.str y) (.str ".")) σ (fun a σ => kF o "many" σ (fun m σ => kB (tyF "str") [m] σ (fun b σ => W (binM .Add a b) σ Q X) X) X) X) X) X) X := by
  cases s <;> kernel_rfl
theorem head_sh (L : KLoops) (kc : KCallee) (o c : AV) (σ : AHeap) (Q : QP AV) (X : XP) : kEnter T L kc (fiIn 30 0) [o, c] σ Q X =
    kS o "callee" c σ (fun σ => kS o "arguments" (.obj σ.length) (σ ++ [nl]) (fun σ => kS o "keywords" (.obj σ.length) (σ ++ [nl]) (fun σ => kS o "result" .none σ (fun σ => kS o "variables" (.lst []) σ (fun σ =>
      kS o "patterns" (.obj σ.length) (σ ++ [nl]) (fun σ => Q .none σ) X) X) X) X) X) X := by kernel_rfl

noncomputable abbrev kPut (o k v : AV) (σ : AHeap) (Q : AHeap → Prop) (X : XP) : Prop := W (setItemM o k v) σ (fun _ σ => Q σ) X
noncomputable def kBnd (c : KCallee) (o : AV) (b dflt : AV) (σ : AHeap) (Q : QP AV) (X : XP) : Prop :=
  kIs .Is b .none σ (fun σ => Q (.tup [.str "value", .tup [.str "type", dflt]]) σ) (fun σ => kF o "table" σ (fun t σ => c 328 [b, t] σ Q X) X) X
theorem variables_sh (L : KLoops) (kc : Nat → KCallee) (o ts s : AV) (σ : AHeap) (Q : QP AV) (X : XP) : kEnter T L (kcI L kc 2) (fiIn 39 0) [o, ts, s] σ Q X =
    kS o "statics" (.obj σ.length) (σ ++ [.dict []]) (fun σ => kS o "table" (.obj σ.length) (σ ++ [.dict []]) (fun σ => kS o "bounds" (.obj σ.length) (σ ++ [nl]) (fun σ =>
      W (toSeq ts) σ (fun _ σ => L.loop (fun v σ Q X => kc 2 240 [v] σ (fun r σ => k3 r fun name lower upper => kF o "statics" σ (fun d σ => kIs .In name d σ
        (fun σ => W (binM .Add (.str "a variable is told twice: ") name) σ (fun v σ => kStr v (X σ)) X)
        (fun σ => kBnd (kc 2) o lower (.top (.ref 205)) σ (fun low σ => kBnd (kc 2) o upper (.top (.ref 204)) σ (fun high σ =>
          kM s "next" σ (fun m σ => kMethM (kcI L kc 2) m s [name] σ (fun var σ => kF o "statics" σ (fun d σ => kPut d name var σ (fun σ =>
            kF o "table" σ (fun d σ => kPut d name (.tup [.str "value", .tup [.str "type", .tup [.str "var", var]]]) σ (fun σ =>
              kF o "bounds" σ (fun b σ => kM b "append" σ (fun m σ => kMethM (kcI L kc 2) m b [.tup [var, low, high]] σ (fun _ σ => Q none σ) X) X) X) X) X) X) X) X) X) X) X) X) X) X)
      (.seq ts) σ (kNext Q fun σ => Q .none σ) X) X) X) X) X := by kernel_rfl
end Mine
end
section
namespace Mine
open PySem

noncomputable def toldTail (L : KLoops) (kc : Nat → KCallee) (ps : List AV) (body binders : AV) : KM AV := fun σ Q X =>
  kc 2 103 [eX "call" ps] σ (fun r σ => k2 r fun kw as => kc 2 183 [as, body] σ (fun r σ => k2 r fun pl whole =>
    W (toSeq kw) σ (fun _ σ => L.comp (fun v σ Q X => k2 v fun at_ part => kB (blF "len") [as] σ (fun n σ => W (binM .Add n at_) σ (fun i σ => kc 2 190 [part, i] σ (fun r σ => W (itemM r (.int 0)) σ (fun p σ => Q (some p) σ) X) X) X) X) (.enum kw) σ (fun told σ =>
      W (itemM (.tup ps) (.int 0)) σ (fun f0 σ => kc 2 162 [f0, pl, .lst told, binders, .none, whole] σ (fun pf σ => kc 2 202 [pf] σ (fun fd σ =>
        W (cmpM .IsNot whole body) σ (fun v σ => kS fd "has_patterns" v σ (fun σ => Q fd σ) X) X) X) X) X) X) X) X) X
noncomputable def toldWhere (L : KLoops) (kc : Nat → KCallee) (vs : List AV) (b : AV) (σ : AHeap) (K : AHeap → Prop) (X : XP) : Prop :=
  kM b "extend" σ (fun m σ => L.comp (fun v σ Q X => kc 2 197 [v] σ (fun b σ => Q (some b) σ) X) (.seq (.tup vs)) σ (fun l σ => kMethM (kcI L kc 2) m b [.lst l] σ (fun _ σ => K σ) X) X) X
theorem told_function_sh0 (L : KLoops) (kc : Nat → KCallee) (ps : List AV) (body : AV) (σ : AHeap) (Q : QP AV) (X : XP) : kEnter T L (kcI L kc 2) (fiAt 15) [eX "call" ps, body] σ Q X =
    toldTail L kc ps body (.obj σ.length) (σ ++ [nl]) Q X := by kernel_rfl
theorem told_function_sh1 (L : KLoops) (kc : Nat → KCallee) (ps : List AV) (v : AV) (body : AV) (σ : AHeap) (Q : QP AV) (X : XP) : kEnter T L (kcI L kc 2) (fiAt 15) [eX "where" [eX "call" ps, v], body] σ Q X =
    toldWhere L kc [v] (.obj σ.length) (σ ++ [nl]) (fun σ' => toldTail L kc ps body (.obj σ.length) σ' Q X) X := by kernel_rfl
theorem told_function_sh2 (L : KLoops) (kc : Nat → KCallee) (ps : List AV) (v w : AV) (body : AV) (σ : AHeap) (Q : QP AV) (X : XP) : kEnter T L (kcI L kc 2) (fiAt 15) [eX "where" [eX "call" ps, v, w], body] σ Q X =
    toldWhere L kc [v, w] (.obj σ.length) (σ ++ [nl]) (fun σ' => toldTail L kc ps body (.obj σ.length) σ' Q X) X := by kernel_rfl
theorem arrow_function_sh (L : KLoops) (kc : Nat → KCallee) (ps : List AV) (σ : AHeap) (Q : QP AV) (X : XP) : kEnter T L (kcI L kc 2) (fiAt 16) [eX "->" [eX "tuple" ps, sX "b"]] σ Q X =
    kc 2 183 [.tup ps, sX "b"] σ (fun r σ => k2 r fun pl body => kc 2 162 [.none, pl, .lst [], .lst [], .none, body] σ (fun pf σ => kc 2 202 [pf] σ Q X) X) X := by kernel_rfl
noncomputable def headEnd (kc : Nat → KCallee) (h vars : AV) : KM AV := fun σ Q X => kS h "variables" vars σ (fun σ => kS h "result" .none σ (fun σ => kc 2 316 [h] σ (fun _ σ => Q h σ) X) X) X
noncomputable def headTail (kc : Nat → KCallee) (ps : List AV) (vars : AV) : KM AV := fun σ Q X =>
  W (itemM (.tup ps) (.int 0)) σ (fun f0 σ => kc 2 279 [f0] σ (fun h σ => kF h "callee" σ (fun c σ => kIs .IsNot c .none σ
    (fun σ => W (sliceM (.tup ps) (some (.int 1)) none) σ (fun r σ => kc 2 311 [h, r] σ (fun _ σ => headEnd kc h vars σ Q X) X) X)
    (fun σ => kc 2 311 [h, .tup [eX "call" ps]] σ (fun _ σ => headEnd kc h vars σ Q X) X) X) X) X) X
theorem function_head_sh0 (L : KLoops) (kc : Nat → KCallee) (ps : List AV) (σ : AHeap) (Q : QP AV) (X : XP) : kEnter T L (kcI L kc 2) (fiAt 36) [eX "function" [eX "call" ps, sX "b"]] σ Q X =
    headTail kc ps (.lst []) σ Q X := by kernel_rfl
theorem function_head_sh1 (L : KLoops) (kc : Nat → KCallee) (ps : List AV) (v : AV) (σ : AHeap) (Q : QP AV) (X : XP) : kEnter T L (kcI L kc 2) (fiAt 36) [eX "function" [eX "where" [eX "call" ps, v], sX "b"]] σ Q X =
    headTail kc ps (.lst [v]) σ Q X := by kernel_rfl
theorem function_head_sh2 (L : KLoops) (kc : Nat → KCallee) (ps : List AV) (v w : AV) (σ : AHeap) (Q : QP AV) (X : XP) : kEnter T L (kcI L kc 2) (fiAt 36) [eX "function" [eX "where" [eX "call" ps, v, w], sX "b"]] σ Q X =
    headTail kc ps (.lst [v, w]) σ Q X := by kernel_rfl
theorem function_head_shA (L : KLoops) (kc : Nat → KCallee) (ps : List AV) (σ : AHeap) (Q : QP AV) (X : XP) : kEnter T L (kcI L kc 2) (fiAt 36) [eX "->" [eX "tuple" ps, sX "b"]] σ Q X =
    kc 2 279 [.none] σ (fun h σ => kc 2 311 [h, .tup ps] σ (fun _ σ => headEnd kc h (.lst []) σ Q X) X) X := by kernel_rfl
noncomputable def bndT (s : Bool) : AV := match s with
  | true => sX "Int8"
  | false => sX "Real"
noncomputable def bndA (s : Bool) : List AV := match s with
  | true => [.str "Int8", sX "Int8"]
  | false => [.str "Real", sX "Real"]
theorem put_names_sh (L : KLoops) (kc : Nat → KCallee) (s : Bool) (t : AV) (σ : AHeap) (Q : QP AV) (X : XP) : kEnter T L (kcI L kc 2) (fiAt 37) [bndT s, t] σ Q X =
    kM t "get" σ (fun m σ => kMethM (kcI L kc 2) m t (bndA s) σ Q X) X := by cases s <;> kernel_rfl

@[irreducible] noncomputable def kegTail (n k : AV) : KM AV := fun σ Q X => W (binM .Mod n (.int 1000829)) σ (fun a σ => W (binM .Mult (.int 127) k) σ (fun b σ => W (binM .Add a b) σ (fun c σ => W (binM .Add c (.int 71)) σ (fun d σ =>
  W (binM .Mult d (.int 163)) σ (fun e σ => W (binM .Mod e (.int 1998259)) σ (fun f σ => Q (.obj σ.length) (σ ++ [.arr [n, f]])) X) X) X) X) X) X
theorem keg_sh (L : KLoops) (kc : Nat → KCallee) (s k : AV) (σ : AHeap) (Q : QP AV) (X : XP) : kEnter T L (kcI L kc 2) (fiAt 41) [s, k] σ Q X =
    kB (blF "len") [s] σ (fun n σ => kIs .Lt k n σ (fun σ => W (itemM s k) σ (fun v σ => kB (blF "abs") [v] σ (fun a σ => W (binM .Mod a (.int (10 ^ 50))) σ (fun n σ => kegTail n k σ Q X) X) X) X) (fun σ => kegTail (.int 0) k σ Q X) X) X := by kernel_rfl
theorem tap_sh (L : KLoops) (kc : Nat → KCallee) (g m : AV) (σ : AHeap) (Q : QP AV) (X : XP) : kEnter T L (kcI L kc 2) (fiAt 42) [g, m] σ Q X =
    W (itemM g (.int 1)) σ (fun a σ => W (binM .Mult a (.int 7919)) σ (fun a σ => W (binM .Add a (.int 419)) σ (fun a σ => W (binM .Mod a (.int 1998259)) σ (fun a σ => kPut g (.int 1) a σ (fun σ =>
      W (itemM g (.int 0)) σ (fun b σ => W (itemM g (.int 1)) σ (fun a σ => W (binM .FloorDiv a (.int 101)) σ (fun a σ => W (binM .Add b a) σ (fun b σ => W (binM .Mod b m) σ (fun got σ =>
        W (itemM g (.int 0)) σ (fun b σ => W (binM .FloorDiv b m) σ (fun b σ => kPut g (.int 0) b σ (fun σ => Q got σ) X) X) X) X) X) X) X) X) X) X) X) X) X := by kernel_rfl
end Mine
end
section
namespace Mine
open PySem

theorem core_sh (L : KLoops) (kc : Nat → KCallee) (g ways : AV) (σ : AHeap) (Q : QP AV) (X : XP) : kEnter T L (kcI L kc 2) (fiAt 44) [g, ways] σ Q X =
    kB (blF "len") [ways] σ (fun n σ => kc 2 384 [g, n] σ (fun a σ => W (itemM ways a) σ (fun way σ => kc 2 384 [g, .int 3] σ (fun b σ => W (itemM (.str "xyz") b) σ (fun name σ =>
      kIs .Eq way (.str "name") σ (fun σ => Q (.tup [.tup [.str "sym", name], name, .bool true]) σ) (fun σ =>
      kIs .Eq way (.str "kind") σ (fun σ => Q (.tup [eX "::" [.tup [.str "sym", name], sX "Int64"], name, .bool true]) σ) (fun σ =>
      kIs .Eq way (.str "alone") σ (fun σ => Q (.tup [eX "::" [sX "Int64"], .str "", .bool true]) σ) (fun σ =>
      kIs .Eq way (.str "low") σ (fun σ => Q (.tup [sX "_", .str "", .bool true]) σ) (fun σ =>
      kIs .Eq way (.str "row") σ (fun σ => Q (.tup [rowT, .str "", .bool true]) σ) (fun σ =>
      kIs .Eq way (.str "both") σ (fun σ => Q (.tup [eX "::" [rowT, sX "Int64"], .str "", .bool true]) σ) (fun σ =>
      kIs .Eq way (.str "number") σ (fun σ => Q (.tup [iX 3, .str "", .bool false]) σ) (fun σ => Q (.tup [eX "::" [iX 3, sX "Int64"], .str "", .bool false]) σ) X) X) X) X) X) X) X) X) X) X) X) X := by kernel_rfl
noncomputable def argEnd (name good rest d tree : AV) : KM AV := fun σ Q X => W (cmpM .Lt d (.int 2)) σ (fun b σ => Q (.tup [tree, name, good, rest, b]) σ) X
noncomputable def argMid (name good rest d tree : AV) : KM AV := fun σ Q X =>
  kIs .Lt d (.int 2) σ (fun σ => W (itemM (.lst [.str "kw", .str "="]) d) σ (fun w σ => argEnd name good rest d (.tup [.str "expr", w, .tup [tree, iX 1]]) σ Q X) X) (fun σ => argEnd name good rest d tree σ Q X) X
theorem argument_sh (L : KLoops) (kc : Nat → KCallee) (g ways : AV) (σ : AHeap) (Q : QP AV) (X : XP) : kEnter T L (kcI L kc 2) (fiAt 45) [g, ways] σ Q X =
    kc 2 398 [g, ways] σ (fun r σ => k3 r fun tree name good => kc 2 384 [g, .int 5] σ (fun a σ => W (cmpM .Eq a (.int 0)) σ (fun rest σ => kc 2 384 [g, .int 4] σ (fun d σ =>
      kTruth rest fun t => kIf t (argMid name good rest d (eX "..." [tree]) σ Q X) (argMid name good rest d tree σ Q X)) X) X) X) X := by kernel_rfl
noncomputable def varEnd (name way sign : AV) : KM AV := fun σ Q X =>
  kIs .Lt way (.int 5) σ (fun σ => W (itemM sign (.int 1)) σ (fun s σ => W (cmpM .Eq s (.str "<:")) σ (fun b σ => Q (.tup [eX "comparison" [sX "Int8", sign, .tup [.str "sym", name], sign, sX "Real"], name, b]) σ) X) X)
    (fun σ => Q (.tup [eX "<:" [iX 1, sX "Real"], name, .bool false]) σ) X
theorem variable_sh (L : KLoops) (kc : Nat → KCallee) (g : AV) (σ : AHeap) (Q : QP AV) (X : XP) : kEnter T L (kcI L kc 2) (fiAt 46) [g] σ Q X =
    kc 2 384 [g, .int 2] σ (fun a σ => W (itemM (.str "ST") a) σ (fun name σ => kc 2 384 [g, .int 6] σ (fun way σ =>
      kIs .Lt way (.int 2) σ (fun σ => Q (.tup [.tup [.str "sym", name], name, .bool true]) σ) (fun σ =>
      kIs .Eq way (.int 2) σ (fun σ => Q (.tup [eX "<:" [.tup [.str "sym", name], sX "Real"], name, .bool true]) σ) (fun σ =>
      kIs .Eq way (.int 3) σ (fun σ => kc 2 384 [g, .int 2] σ (fun b σ => W (itemM (.lst [.str "<:", .str ">:"]) b) σ (fun s σ => varEnd name way (.tup [.str "sym", s]) σ Q X) X) X)
        (fun σ => varEnd name way (sX "<:") σ Q X) X) X) X) X) X) X := by kernel_rfl
theorem twice_sh (L : KLoops) (kc : Nat → KCallee) (ns : AV) (σ : AHeap) (Q : QP AV) (X : XP) : kEnter T L (kcI L kc 2) (fiAt 47) [ns] σ Q X =
    W (toSeq ns) σ (fun _ σ => L.comp (fun v σ Q X => kIs .NotEq v (.str "") σ (fun σ => kM ns "count" σ (fun m σ => kMethM (kcI L kc 2) m ns [v] σ (fun c σ =>
      kIs .Gt c (.int 1) σ (fun σ => Q (some v) σ) (fun σ => Q none σ) X) X) X) (fun σ => Q none σ) X) (.seq ns) σ (fun l σ => W (cmpM .NotEq (.lst l) (.lst [])) σ Q X) X) X := by kernel_rfl
noncomputable abbrev kItems (L : KLoops) (s : AV) (k : Int) (σ : AHeap) (Q : QP (List AV)) (X : XP) : Prop := W (toSeq s) σ (fun _ σ => L.comp (fun v σ Q X => W (itemM v (.int k)) σ (fun x σ => Q (some x) σ) X) (.seq s) σ Q X) X
noncomputable abbrev kIT (o : AV) (k : Int) (σ : AHeap) (p q : AHeap → Prop) (X : XP) : Prop := W (itemM o (.int k)) σ (fun r σ => kTruth r fun t => kIf t (p σ) (q σ)) X
noncomputable abbrev kIN (o : AV) (k : Int) (σ : AHeap) (p q : AHeap → Prop) (X : XP) : Prop := W (itemM o (.int k)) σ (fun r σ => kTruth r fun t => kIf (!t) (p σ) (q σ)) X
noncomputable abbrev kCT (c : KCallee) (a : Addr) (args : List AV) (σ : AHeap) (p q : AHeap → Prop) (X : XP) : Prop := c a args σ (fun r σ => kTruth r fun t => kIf t (p σ) (q σ)) X
noncomputable def cbOrder (A at_ one : AV) (σ : AHeap) (ret next : AHeap → Prop) (X : XP) : Prop :=
  kIs .Gt at_ (.int 0) σ (fun σ => W (binM .Sub at_ (.int 1)) σ (fun b σ => W (itemM A b) σ (fun p σ => kIT p 4 σ (fun σ => kIN one 4 σ (fun σ => kIN one 3 σ ret next X) next X) next X) X) X) next X
theorem can_be_sh (L : KLoops) (kc : Nat → KCallee) (A K V : AV) (σ : AHeap) (Q : QP AV) (X : XP) : kEnter T L (kcI L kc 2) (fiAt 48) [A, K, V] σ Q X =
    W (binM .Add A K) σ (fun s σ => W (binM .Add s V) σ (fun s σ => kItems L s 2 σ (fun l σ => kIs .In (.bool false) (.lst l) σ (fun σ => Q (.bool false) σ) (fun σ =>
      W (binM .Add A K) σ (fun s σ => kItems L s 1 σ (fun l σ => kCT (kc 2) 417 [.lst l] σ (fun σ => Q (.bool false) σ) (fun σ =>
      kItems L V 1 σ (fun l σ => kCT (kc 2) 417 [.lst l] σ (fun σ => Q (.bool false) σ) (fun σ =>
      W (toSeq A) σ (fun _ σ => L.loop (fun v σ Q X => k2 v fun at_ one =>
        kIT one 3 σ (fun σ => kB (blF "len") [A] σ (fun n σ => W (binM .Sub n (.int 1)) σ (fun m σ => kIs .Lt at_ m σ (fun σ => Q (some (.bool false)) σ)
          (fun σ => kIT one 4 σ (fun σ => Q (some (.bool false)) σ) (fun σ => cbOrder A at_ one σ (fun σ => Q (some (.bool false)) σ) (fun σ => Q none σ) X) X) X) X) X)
          (fun σ => cbOrder A at_ one σ (fun σ => Q (some (.bool false)) σ) (fun σ => Q none σ) X) X) (.enum A) σ (kNext Q fun σ =>
      kItems L K 3 σ (fun l σ => W (cmpM .NotIn (.bool true) (.lst l)) σ Q X) X) X) X) X) X) X) X) X) X) X) X) X := by kernel_rfl
theorem counts_sh1 (L : KLoops) (kc : Nat → KCallee) (t : AV) (σ : AHeap) (Q : QP AV) (X : XP) : kEnter T L (kcI L kc 2) (fiAt 49) [.top (.ref 436), t] σ Q X = kc 2 436 [t] σ Q (fun σ => Q .none σ) := by kernel_rfl
theorem counts_sh2 (L : KLoops) (kc : Nat → KCallee) (t : AV) (σ : AHeap) (Q : QP AV) (X : XP) : kEnter T L (kcI L kc 2) (fiAt 49) [.top (.ref 443), t] σ Q X = kc 2 443 [t] σ Q (fun σ => Q .none σ) := by kernel_rfl
theorem counts_sh3 (L : KLoops) (kc : Nat → KCallee) (t : AV) (σ : AHeap) (Q : QP AV) (X : XP) : kEnter T L (kcI L kc 2) (fiAt 49) [.top (.ref 450), t] σ Q X = kc 2 450 [t] σ Q (fun σ => Q .none σ) := by kernel_rfl
theorem counts_sh4 (L : KLoops) (kc : Nat → KCallee) (t : AV) (σ : AHeap) (Q : QP AV) (X : XP) : kEnter T L (kcI L kc 2) (fiAt 49) [.top (.ref 457), t] σ Q X = kc 2 457 [t] σ Q (fun σ => Q .none σ) := by kernel_rfl
noncomputable abbrev kLens (f : AV) (x y : Str) : KM AV := fun σ Q X => kF f x σ (fun p σ => kB (blF "len") [p] σ (fun n σ => kF f y σ (fun k σ => kB (blF "len") [k] σ (fun m σ => Q (.tup [n, m]) σ) X) X) X) X
theorem l_plain_sh (L : KLoops) (kc : Nat → KCallee) (t : AV) (σ : AHeap) (Q : QP AV) (X : XP) : kEnter T L (kcI L kc 2) (fiAt 50) [t] σ Q X =
    kc 2 171 [t, .obj σ.length] (σ ++ [.tup [.str "sym", .str "b"]]) (fun f σ => kLens f "params" "keywords" σ Q X) X := by kernel_rfl
theorem l_lowered_sh (L : KLoops) (kc : Nat → KCallee) (t : AV) (σ : AHeap) (Q : QP AV) (X : XP) : kEnter T L (kcI L kc 2) (fiAt 51) [t] σ Q X =
    kc 2 323 [eX "function" [t, sX "b"]] σ (fun f σ => kF f "variables" σ (fun vs σ => kc 2 229 [] σ (fun s σ => kc 2 366 [vs, s] σ (fun _ σ => kLens f "arguments" "keywords" σ Q X) X) X) X) X := by kernel_rfl
theorem l_plain_arrow_sh (L : KLoops) (kc : Nat → KCallee) (t : AV) (σ : AHeap) (Q : QP AV) (X : XP) : kEnter T L (kcI L kc 2) (fiAt 52) [t] σ Q X =
    kc 2 176 [t] σ (fun f σ => kF f "params" σ (fun p σ => kB (blF "len") [p] σ (fun n σ => Q (.tup [n, .int 0]) σ) X) X) X := by kernel_rfl
theorem l_lowered_arrow_sh (L : KLoops) (kc : Nat → KCallee) (t : AV) (σ : AHeap) (Q : QP AV) (X : XP) : kEnter T L (kcI L kc 2) (fiAt 53) [t] σ Q X =
    kc 2 323 [t] σ (fun f σ => kF f "arguments" σ (fun p σ => kB (blF "len") [p] σ (fun n σ => Q (.tup [n, .int 0]) σ) X) X) X := by kernel_rfl
end Mine
end
section
namespace Mine
open PySem

noncomputable def hr6 (kc : Nat → KCallee) (arrow due : AV) : KM AV := fun σ Q X =>
  kc 2 429 [.top (.ref 450), arrow] σ (fun r σ => W (cmpM .Eq r due) σ (fun c σ => kTruth c fun t => kIf t (kc 2 429 [.top (.ref 457), arrow] σ (fun r σ => W (cmpM .Eq r due) σ Q X) X) (Q c σ)) X) X
noncomputable def hr5 (L : KLoops) (kc : Nat → KCallee) (A : AV) : KM AV := fun σ Q X =>
  kItems L A 0 σ (fun l σ => kB (tyF "tuple") [.lst l] σ (fun t σ => kCT (kc 2) 422 [A, .lst [], .lst []] σ
    (fun σ => kB (blF "len") [A] σ (fun n σ => hr6 kc (eX "->" [.tup [.str "expr", .str "tuple", t], sX "b"]) (.tup [n, .int 0]) σ Q X) X)
    (fun σ => hr6 kc (eX "->" [.tup [.str "expr", .str "tuple", t], sX "b"]) .none σ Q X) X) X) X
noncomputable def hr4 (L : KLoops) (kc : Nat → KCallee) (A head due : AV) : KM AV := fun σ Q X =>
  kc 2 429 [.top (.ref 436), head] σ (fun r σ => kIs .NotEq r due σ (fun σ => Q (.bool false) σ) (fun σ =>
    kc 2 429 [.top (.ref 443), head] σ (fun r σ => kIs .NotEq r due σ (fun σ => Q (.bool false) σ) (fun σ => hr5 L kc A σ Q X) X) X) X) X
noncomputable def hr3 (L : KLoops) (kc : Nat → KCallee) (A K V head : AV) : KM AV := fun σ Q X =>
  kCT (kc 2) 422 [A, K, V] σ (fun σ => kB (blF "len") [A] σ (fun n σ => kB (blF "len") [K] σ (fun m σ => hr4 L kc A head (.tup [n, m]) σ Q X) X) X) (fun σ => hr4 L kc A head .none σ Q X) X
noncomputable def hr2 (L : KLoops) (kc : Nat → KCallee) (A K V head : AV) : KM AV := fun σ Q X =>
  kIs .NotEq V (.lst []) σ (fun σ => kItems L V 0 σ (fun l σ => W (binM .Add (.lst [head]) (.lst l)) σ (fun s σ => kB (tyF "tuple") [s] σ (fun t σ => hr3 L kc A K V (.tup [.str "expr", .str "where", t]) σ Q X) X) X) X)
    (fun σ => hr3 L kc A K V head σ Q X) X
noncomputable def hr1 (L : KLoops) (kc : Nat → KCallee) (A K V ahead : AV) : KM AV := fun σ Q X =>
  W (binM .Add (.lst [sX "f"]) ahead) σ (fun s σ => kItems L A 0 σ (fun l σ => W (binM .Add s (.lst l)) σ (fun s σ => kB (tyF "tuple") [s] σ (fun t σ => hr2 L kc A K V (.tup [.str "expr", .str "call", t]) σ Q X) X) X) X) X
theorem head_right_sh (L : KLoops) (kc : Nat → KCallee) (A K V : AV) (σ : AHeap) (Q : QP AV) (X : XP) : kEnter T L (kcI L kc 2) (fiAt 54) [A, K, V] σ Q X =
    kIs .NotEq K (.lst []) σ (fun σ => kItems L K 0 σ (fun l σ => kB (tyF "tuple") [.lst l] σ (fun t σ => hr1 L kc A K V (.lst [.tup [.str "expr", .str "parameters", t]]) σ Q X) X) X)
      (fun σ => hr1 L kc A K V (.lst []) σ Q X) X := by kernel_rfl

noncomputable abbrev ways8 : List AV := [.str "name", .str "kind", .str "name", .str "kind", .str "alone", .str "low", .str "row", .str "both"]
noncomputable abbrev ways10 : List AV := [.str "name", .str "kind", .str "name", .str "kind", .str "alone", .str "low", .str "row", .str "both", .str "number", .str "odd"]
noncomputable def lw2 (L : KLoops) (kc : Nat → KCallee) (keg some_ : AV) (σ : AHeap) (Q : QP (Option AV)) (X : XP) : Prop :=
  kc 2 384 [keg, .int 5] σ (fun n σ => kRange n fun n => L.comp (fun v σ Q X => kc 2 405 [keg, some_] σ (fun a σ => Q (some a) σ) X) (.range n) σ (fun as σ =>
  kc 2 384 [keg, .int 3] σ (fun n σ => kRange n fun n => L.comp (fun v σ Q X => kc 2 405 [keg, .lst [.str "name", .str "kind", .str "kind"]] σ (fun a σ => Q (some a) σ) X) (.range n) σ (fun ks σ =>
  kc 2 384 [keg, .int 3] σ (fun n σ => kRange n fun n => L.comp (fun v σ Q X => kc 2 412 [keg] σ (fun a σ => Q (some a) σ) X) (.range n) σ (fun vs σ =>
  kc 2 462 [.lst as, .lst ks, .lst vs] σ (fun r σ => kTruth r fun t => kIf (!t) (Q (some (.bool false)) σ) (Q none σ)) X) X) X) X) X) X) X
noncomputable abbrev fix1 : AV := .tup [eX "kw" [sX "x", iX 1], .str "x", .bool true, .bool false, .bool true]
noncomputable abbrev fix2 : AV := .tup [eX "..." [sX "y"], .str "y", .bool true, .bool true, .bool false]
theorem law_sh (L : KLoops) (kc : Nat → KCallee) (s : AV) (σ : AHeap) (Q : QP AV) (X : XP) : kEnter T L (kcI L kc 2) (fiAt 55) [s] σ Q X =
    kM (.obj σ.length) "append" (σ ++ [.list [fix1]]) (fun m σ1 => kMethM (kcI L kc 2) m (.obj σ.length) [fix2] σ1 (fun _ σ1 =>
      kc 2 462 [.obj σ.length, .lst [], .lst []] σ1 (fun r σ => kTruth r fun t => kIf (!t) (Q (.bool false) σ)
        (kB (blF "len") [s] σ (fun n σ => kB (blF "min") [n, .int 3] σ (fun a σ => kB (blF "max") [.int 1, a] σ (fun b σ => kRange b fun b =>
          L.loop (fun k σ Q X => kc 2 377 [s, k] σ (fun keg σ => kc 2 384 [keg, .int 3] σ (fun g σ => kIs .Eq g (.int 0) σ (fun σ => lw2 L kc keg (.lst ways10) σ Q X) (fun σ => lw2 L kc keg (.lst ways8) σ Q X) X) X) X)
            (.range b) σ (kNext Q fun σ => Q (.bool true) σ) X) X) X) X)) X) X) X := by kernel_rfl
end Mine
end
section
namespace Mine
open PySem PySem.W PySem.Calls PyProof.Rows

noncomputable def obA (K : Frag) (a : Addr) : Obj := (K.lookup a).getD default
noncomputable def fdA (K : Frag) (a : Addr) : FuncData := match (obA K a).data with
  | .func fd => fd
  | _ => default
structure FunIn (K : Frag) (a : Addr) (fi : FunInfo) : Prop where
  one : K.lookup a = some ⟨(obA K a).cls, (obA K a).dict, .func (fdA K a), (obA K a).slots⟩
  two : ((fdA K a).body, (fdA K a).scope, (fdA K a).globals, (fdA K a).builtins, (fdA K a).closure, codeIn K (fdA K a).code (fdA K a).qualname) = (.stmts fi.body, fi.scope, mainGlobals, builtinsNs, [], true)
  bnd : ∀ vs : List Value, vs.length = fi.pars.length → PySem.bindArgs (fdA K a) ⟨vs, []⟩ = pure (fi.pars.zip vs)
theorem funIn1 {K : Frag} {a : Addr} {fi : FunInfo} (h1 : K.lookup a = some ⟨(obA K a).cls, (obA K a).dict, .func (fdA K a), (obA K a).slots⟩)
    (h2 : ((fdA K a).body, (fdA K a).scope, (fdA K a).globals, (fdA K a).builtins, (fdA K a).closure, codeIn K (fdA K a).code (fdA K a).qualname) = (.stmts fi.body, fi.scope, mainGlobals, builtinsNs, [], true)) (h3 : fi.pars.length = 1)
    (h4 : ∀ v0 : Value, PySem.bindArgs (fdA K a) ⟨[v0], []⟩ = pure (fi.pars.zip [v0])) : FunIn K a fi := ⟨h1, h2, fun vs hl => by
  rw [h3] at hl
  obtain ⟨v0, r0, rfl⟩ := List.exists_cons_of_length_pos (l := vs) (by omega)
  have hl := Nat.succ.inj hl
  cases List.eq_nil_of_length_eq_zero hl
  exact h4 v0⟩
theorem funIn2 {K : Frag} {a : Addr} {fi : FunInfo} (h1 : K.lookup a = some ⟨(obA K a).cls, (obA K a).dict, .func (fdA K a), (obA K a).slots⟩)
    (h2 : ((fdA K a).body, (fdA K a).scope, (fdA K a).globals, (fdA K a).builtins, (fdA K a).closure, codeIn K (fdA K a).code (fdA K a).qualname) = (.stmts fi.body, fi.scope, mainGlobals, builtinsNs, [], true)) (h3 : fi.pars.length = 2)
    (h4 : ∀ v0 v1 : Value, PySem.bindArgs (fdA K a) ⟨[v0, v1], []⟩ = pure (fi.pars.zip [v0, v1])) : FunIn K a fi := ⟨h1, h2, fun vs hl => by
  rw [h3] at hl
  obtain ⟨v0, r0, rfl⟩ := List.exists_cons_of_length_pos (l := vs) (by omega)
  have hl := Nat.succ.inj hl
  obtain ⟨v1, r1, rfl⟩ := List.exists_cons_of_length_pos (l := r0) (by omega)
  have hl := Nat.succ.inj hl
  cases List.eq_nil_of_length_eq_zero hl
  exact h4 v0 v1⟩
theorem funIn3 {K : Frag} {a : Addr} {fi : FunInfo} (h1 : K.lookup a = some ⟨(obA K a).cls, (obA K a).dict, .func (fdA K a), (obA K a).slots⟩)
    (h2 : ((fdA K a).body, (fdA K a).scope, (fdA K a).globals, (fdA K a).builtins, (fdA K a).closure, codeIn K (fdA K a).code (fdA K a).qualname) = (.stmts fi.body, fi.scope, mainGlobals, builtinsNs, [], true)) (h3 : fi.pars.length = 3)
    (h4 : ∀ v0 v1 v2 : Value, PySem.bindArgs (fdA K a) ⟨[v0, v1, v2], []⟩ = pure (fi.pars.zip [v0, v1, v2])) : FunIn K a fi := ⟨h1, h2, fun vs hl => by
  rw [h3] at hl
  obtain ⟨v0, r0, rfl⟩ := List.exists_cons_of_length_pos (l := vs) (by omega)
  have hl := Nat.succ.inj hl
  obtain ⟨v1, r1, rfl⟩ := List.exists_cons_of_length_pos (l := r0) (by omega)
  have hl := Nat.succ.inj hl
  obtain ⟨v2, r2, rfl⟩ := List.exists_cons_of_length_pos (l := r1) (by omega)
  have hl := Nat.succ.inj hl
  cases List.eq_nil_of_length_eq_zero hl
  exact h4 v0 v1 v2⟩
theorem funIn5 {K : Frag} {a : Addr} {fi : FunInfo} (h1 : K.lookup a = some ⟨(obA K a).cls, (obA K a).dict, .func (fdA K a), (obA K a).slots⟩)
    (h2 : ((fdA K a).body, (fdA K a).scope, (fdA K a).globals, (fdA K a).builtins, (fdA K a).closure, codeIn K (fdA K a).code (fdA K a).qualname) = (.stmts fi.body, fi.scope, mainGlobals, builtinsNs, [], true)) (h3 : fi.pars.length = 5)
    (h4 : ∀ v0 v1 v2 v3 v4 : Value, PySem.bindArgs (fdA K a) ⟨[v0, v1, v2, v3, v4], []⟩ = pure (fi.pars.zip [v0, v1, v2, v3, v4])) : FunIn K a fi := ⟨h1, h2, fun vs hl => by
  rw [h3] at hl
  obtain ⟨v0, r0, rfl⟩ := List.exists_cons_of_length_pos (l := vs) (by omega)
  have hl := Nat.succ.inj hl
  obtain ⟨v1, r1, rfl⟩ := List.exists_cons_of_length_pos (l := r0) (by omega)
  have hl := Nat.succ.inj hl
  obtain ⟨v2, r2, rfl⟩ := List.exists_cons_of_length_pos (l := r1) (by omega)
  have hl := Nat.succ.inj hl
  obtain ⟨v3, r3, rfl⟩ := List.exists_cons_of_length_pos (l := r2) (by omega)
  have hl := Nat.succ.inj hl
  obtain ⟨v4, r4, rfl⟩ := List.exists_cons_of_length_pos (l := r3) (by omega)
  have hl := Nat.succ.inj hl
  cases List.eq_nil_of_length_eq_zero hl
  exact h4 v0 v1 v2 v3 v4⟩
theorem funIn7 {K : Frag} {a : Addr} {fi : FunInfo} (h1 : K.lookup a = some ⟨(obA K a).cls, (obA K a).dict, .func (fdA K a), (obA K a).slots⟩)
    (h2 : ((fdA K a).body, (fdA K a).scope, (fdA K a).globals, (fdA K a).builtins, (fdA K a).closure, codeIn K (fdA K a).code (fdA K a).qualname) = (.stmts fi.body, fi.scope, mainGlobals, builtinsNs, [], true)) (h3 : fi.pars.length = 7)
    (h4 : ∀ v0 v1 v2 v3 v4 v5 v6 : Value, PySem.bindArgs (fdA K a) ⟨[v0, v1, v2, v3, v4, v5, v6], []⟩ = pure (fi.pars.zip [v0, v1, v2, v3, v4, v5, v6])) : FunIn K a fi := ⟨h1, h2, fun vs hl => by
  rw [h3] at hl
  obtain ⟨v0, r0, rfl⟩ := List.exists_cons_of_length_pos (l := vs) (by omega)
  have hl := Nat.succ.inj hl
  obtain ⟨v1, r1, rfl⟩ := List.exists_cons_of_length_pos (l := r0) (by omega)
  have hl := Nat.succ.inj hl
  obtain ⟨v2, r2, rfl⟩ := List.exists_cons_of_length_pos (l := r1) (by omega)
  have hl := Nat.succ.inj hl
  obtain ⟨v3, r3, rfl⟩ := List.exists_cons_of_length_pos (l := r2) (by omega)
  have hl := Nat.succ.inj hl
  obtain ⟨v4, r4, rfl⟩ := List.exists_cons_of_length_pos (l := r3) (by omega)
  have hl := Nat.succ.inj hl
  obtain ⟨v5, r5, rfl⟩ := List.exists_cons_of_length_pos (l := r4) (by omega)
  have hl := Nat.succ.inj hl
  obtain ⟨v6, r6, rfl⟩ := List.exists_cons_of_length_pos (l := r5) (by omega)
  have hl := Nat.succ.inj hl
  cases List.eq_nil_of_length_eq_zero hl
  exact h4 v0 v1 v2 v3 v4 v5 v6⟩
theorem all_nil {K : Frag} : ∀ p ∈ ([] : List (Addr × FunInfo)), FunIn K p.1 p.2 := fun _ h => by cases h
theorem all_cons {K : Frag} {a : Addr} {fi : FunInfo} {l : List (Addr × FunInfo)} (h : FunIn K a fi) (r : ∀ p ∈ l, FunIn K p.1 p.2) : ∀ p ∈ (a, fi) :: l, FunIn K p.1 p.2 := List.forall_mem_cons.mpr ⟨h, r⟩
theorem fun_static : (tabE.all fun p => p.2.scope.kind == .function && !p.2.scope.isGenerator && !p.2.scope.isCoroutine && p.2.scope.names.all fun q => q.2 != .free) = true := by kernel_rfl

noncomputable def globChk (K : Frag) (p : Str × AV) : Bool := match p.2 with
  | .top u => nsIn K mainGlobals p.1 == some (some u) || (nsIn K mainGlobals p.1 == some none && bootBuiltins p.1 == some u && p.1 != "__name__")
  | _ => false
noncomputable def fieldChk (K : Frag) (p : Addr × Str) : Bool := plainGet K p.1 p.2 && hasDictIn K p.1 && (findIn K (.ref p.1) p.2).any (noGet K) && findIn K (.ref p.1) "__setattr__" == some (some (.builtin "object.__setattr__")) && plainOver K p.1 && takerIn K p.1 p.2 == some none
structure HF (K : Frag) : Prop where
  exm : exmOne K lowerFault lowerFault = some true
  sa : findIn K (.ref 52) "__setattr__" = some (some (.builtin "object.__setattr__"))
  ini : findIn K (.ref 52) "__init__" = some (some (.ref 36))
  msg : findIn K (.ref 52) "message" = some none
  spot : findIn K (.ref 52) "spot" = some none
  fn : isFn K (.ref 36) = true
  top : nsIn K mainGlobals "Exception" = some none
  cls : LfCls K
  glob : globalTab.all (globChk K) = true
  field : fieldTab.all (fieldChk K) = true
  callee : (funNames.all (fun p => keepIn K (.ref p.1)) && clsNames.all fun p => keepIn K (.ref p.1)) = true
  clss : clsNames.all (fun p => makesIn K p.1 && findIn K (.ref p.1) "__init__" == some (some (.ref p.2.2)) && isFn K (.ref p.2.2)) = true
  meth : MethOk K 229 "next" 226
  lf : LfFun K
  funs : ∀ p ∈ tabE, FunIn K p.1 p.2

theorem lookup_mem' {α β : Type} [BEq α] [LawfulBEq α] {x : α} {b : β} : ∀ {l : List (α × β)}, l.lookup x = some b → (x, b) ∈ l
  | (y, c) :: r, h => by
    rw [List.lookup_cons] at h
    induction q : x == y using Bool.casesOn with
    | true =>
      rw [q] at h
      obtain rfl := beq_iff_eq.mp q
      cases h
      exact .head _
    | false => rw [q] at h; exact .tail _ (lookup_mem' h)

theorem globOk {K : Frag} (H : HF K) (x : Str) (v : AV) (h : T.global x = some v) : ∃ u, v = .top u ∧ (nsIn K mainGlobals x = some (some u) ∨ (nsIn K mainGlobals x = some none ∧ bootBuiltins x = some u ∧ x ≠ "__name__")) := by
  have hm := lookup_mem' (l := globalTab) h
  have hc := List.all_eq_true.mp (H.glob) _ hm
  unfold globChk at hc
  induction v using AV.casesOn with
  | top u =>
    simp only [Bool.or_eq_true, Bool.and_eq_true, beq_iff_eq, bne_iff_ne, ne_eq] at hc
    refine ⟨u, rfl, ?_⟩
    rcases hc with h | ⟨⟨h1, h2⟩, h3⟩
    · exact .inl h
    · exact .inr ⟨h1, h2, h3⟩
  | _ => cases hc
theorem fieldOk {K : Frag} (H : HF K) (c : Addr) (x : Str) (h : T.fieldOk c x = true) : FieldOk K c x := by
  have hm : (c, x) ∈ fieldTab := List.contains_iff_mem.mp h
  have hc := List.all_eq_true.mp (H.field) _ hm
  unfold fieldChk at hc
  simp only [Bool.and_eq_true, beq_iff_eq] at hc
  obtain ⟨⟨⟨⟨⟨h1, h2⟩, h3⟩, h4⟩, h5⟩, h6⟩ := hc
  obtain ⟨at', e1, e2⟩ := Option.any_eq_true .. |>.mp h3
  exact ⟨h1, h2, ⟨at', e1, e2⟩, h4, h5, h6⟩
theorem methOk {K : Frag} (H : HF K) (c : Addr) (x : Str) (f : Addr) (h : T.methAt c x = some f) : MethOk K c x f := by
  change (if c = 229 ∧ x = "next" then some 226 else none) = some f at h
  split at h
  · rename_i q
    obtain ⟨rfl, rfl⟩ := q
    cases h
    exact H.meth
  · cases h
theorem calleeOk {K : Frag} (H : HF K) (a : Addr) (h : T.isCallee a = true) : keepIn K (.ref a) = true := by
  have hc := H.callee
  simp only [Bool.and_eq_true] at hc
  change ((funNames.any fun p => p.1 == a) || clsNames.any fun p => p.1 == a) = true at h
  rcases (Bool.or_eq_true _ _).mp h with h | h
  · obtain ⟨p, hp, e⟩ := List.any_eq_true.mp h
    obtain rfl := beq_iff_eq.mp e
    exact List.all_eq_true.mp hc.1 p hp
  · obtain ⟨p, hp, e⟩ := List.any_eq_true.mp h
    obtain rfl := beq_iff_eq.mp e
    exact List.all_eq_true.mp hc.2 p hp
theorem clsOk {K : Frag} (H : HF K) (c f : Addr) (h : T.initAt c = some f) : ClsOk K c f := by
  change (clsNames.lookup c).map (·.2) = some f at h
  obtain ⟨p, e, rfl⟩ := Option.map_eq_some_iff.mp h
  have hc := List.all_eq_true.mp (H.clss) _ (lookup_mem' e)
  simp only [Bool.and_eq_true, beq_iff_eq] at hc
  exact ⟨hc.1.1, hc.1.2, hc.2⟩
theorem funsOk {G : Gd} {K : Frag} (H : HF K) (hK : G.K = K) (a : Addr) (fi : FunInfo) (h : funAt a = some fi) : FunOk G a fi := by
  unfold funAt at h
  rw [funTab_eq] at h
  have hm := lookup_mem' h
  have hs := List.all_eq_true.mp fun_static _ hm
  obtain ⟨h1, h2, h3⟩ := H.funs _ hm
  dsimp only at hs h1 h2 h3
  simp only [Bool.and_eq_true, Bool.not_eq_true', beq_iff_eq] at hs
  obtain ⟨e1, h2⟩ := Prod.mk.inj h2
  obtain ⟨e2, h2⟩ := Prod.mk.inj h2
  obtain ⟨e3, h2⟩ := Prod.mk.inj h2
  obtain ⟨e4, h2⟩ := Prod.mk.inj h2
  obtain ⟨e5, e6⟩ := Prod.mk.inj h2
  rw [← hK] at h1 e6
  exact ⟨⟨_, _, _, _, h1, by rw [hK]; exact e1, by rw [hK]; exact e2, by rw [hK]; exact e3, by rw [hK]; exact e4, by rw [hK]; exact e5, e6, fun vs hl => by rw [hK]; exact h3 vs hl⟩, hs.1.1.1, hs.1.1.2, hs.1.2, fun p hp e => by
    have := List.all_eq_true.mp hs.2 p hp
    rw [e] at this
    cases this⟩

theorem lfOk {G : Gd} {K : Frag} (H : HF K) (hK : G.K = K) : LfOk G := by
  subst hK
  exact ⟨H.cls, H.sa, H.ini, H.msg, H.spot, H.fn, ⟨H.top, by kernel_rfl⟩, H.lf⟩
theorem gdOk {G : Gd} {K : Frag} (H : HF K) (hK : G.K = K) (ht : G.tb = T) (hf : G.fn = funAt) (mods : ∃ o, G.hb.get? sysModules = some o) (X : G.K.In G.hb) (Tp : TopRead G.pv G.loose G.mg G.mb G.hb) : G.Ok2 :=
  { mods := mods, X := X, Tp := Tp,
    glob := fun x v h => by rw [hK]; exact globOk H x v (by rw [ht] at h; exact h),
    field := fun c x h => by rw [hK]; exact fieldOk H c x (by rw [ht] at h; exact h),
    meth := fun c x f h => by rw [hK]; exact methOk H c x f (by rw [ht] at h; exact h),
    callee := fun a h => by rw [hK]; exact calleeOk H a (by rw [ht] at h; exact h),
    funs := fun a fi h => funsOk H hK a fi (by rw [hf] at h; exact h),
    clss := fun c f h => by rw [hK]; exact clsOk H c f (by rw [ht] at h; exact h) }

theorem callsSim {G : Gd} {K : Frag} (H : HF K) (hK : G.K = K) (ht : G.tb = T) (hf : G.fn = funAt) (mods : ∃ o, G.hb.get? sysModules = some o) (X : G.K.In G.hb) (Tp : TopRead G.pv G.loose G.mg G.mb G.hb) (n : Nat) :
    CSimC G n (callF G.tb G.fn n) :=
  csim (gdOk H hK ht hf mods X Tp) (fun _ => raiseSim (gdOk H hK ht hf mods X Tp).toOk (lfOk H hK)) (fun _ => trySim (gdOk H hK ht hf mods X Tp).toOk (by rw [hK]; exact H.exm)) n
end Mine
end
section
namespace Mine
open PySem

noncomputable def Keep (σ σ' : AHeap) : Prop := ∀ (i : Nat) (o : AObj), σ[i]? = some o → σ'[i]? = some o
theorem Keep.refl (σ : AHeap) : Keep σ σ := fun _ _ h => h
theorem Keep.trans {a b c : AHeap} (x : Keep a b) (y : Keep b c) : Keep a c := fun i o h => y i o (x i o h)
theorem Keep.len {a b : AHeap} (x : Keep a b) : a.length ≤ b.length := by
  rcases Nat.eq_zero_or_pos a.length with h | h
  · omega
  · have h1 : a.length - 1 < a.length := by omega
    have := x (a.length - 1) a[a.length - 1] (List.getElem?_eq_getElem h1)
    have := (List.getElem?_eq_some_iff.mp this).1
    omega
theorem Keep.app (σ : AHeap) (l : AHeap) : Keep σ (σ ++ l) := fun i o h => by
  rw [List.getElem?_append_left (List.getElem?_eq_some_iff.mp h).1]; exact h
theorem Keep.set {σ σ' : AHeap} (x : Keep σ σ') {i : Nat} (h : σ.length ≤ i) (o : AObj) : Keep σ (σ'.set i o) := fun j p e => by
  have := (List.getElem?_eq_some_iff.mp e).1
  rw [List.getElem?_set_ne (by omega)]; exact x j p e
theorem get_app (σ : AHeap) (o : AObj) (l : AHeap) : (σ ++ o :: l)[σ.length]? = some o := by
  rw [List.getElem?_append_right (Nat.le_refl _), Nat.sub_self]; rfl
theorem get_set {σ : AHeap} {i : Nat} {o p : AObj} (h : σ[i]? = some p) : (σ.set i o)[i]? = some o := by
  rw [List.getElem?_set_self (List.getElem?_eq_some_iff.mp h).1]
theorem get_set_ne {σ : AHeap} {i j : Nat} {o p : AObj} (h : i ≠ j) (e : σ[j]? = some p) : (σ.set i o)[j]? = some p := by
  rw [List.getElem?_set_ne h]; exact e
theorem get_lt {σ : AHeap} {i : Nat} {o : AObj} (h : σ[i]? = some o) : i < σ.length := (List.getElem?_eq_some_iff.mp h).1

inductive SqV (σ : AHeap) : AV → List AV → Prop where
  | lst {l : List AV} (h : l.length ≤ 1000) : SqV σ (.lst l) l
  | obj {i : Nat} {l : List AV} (e : σ[i]? = some (.list l)) (h : l.length ≤ 1000) : SqV σ (.obj i) l
theorem SqV.keep {σ σ' : AHeap} {v : AV} {l : List AV} (h : SqV σ v l) (k : Keep σ σ') : SqV σ' v l := by
  cases h with
  | lst h => exact .lst h
  | obj e h => exact .obj (k _ _ e) h
theorem SqV.le {σ : AHeap} {v : AV} {l : List AV} (h : SqV σ v l) : l.length ≤ 1000 := by cases h <;> assumption
theorem capped_ok {l : List AV} (h : l.length ≤ 1000) : capped l = pure l := if_pos h
section
variable {σ : AHeap} {X : XP}
theorem toSeq_seq {v : AV} {l : List AV} (h : SqV σ v l) {Q : QP (List AV)} : W (toSeq v) σ Q X = Q l σ := by
  cases h with
  | lst h => show W (capped l) σ Q X = _; rw [capped_ok h]; rfl
  | obj e h => show W (getObj _ >>= _) σ Q X = _; rw [W_bind, W_get e]; show W (capped l) σ Q X = _; rw [capped_ok h]; rfl
theorem toSeq_tup {l : List AV} (h : l.length ≤ 1000) {Q : QP (List AV)} : W (toSeq (.tup l)) σ Q X = Q l σ := by
  show W (capped l) σ Q X = _; rw [capped_ok h]; rfl
theorem toSeq_src {l : List Int} (h : l.length ≤ 1000) {Q : QP (List AV)} : W (toSeq (.src l)) σ Q X = Q (l.map AV.int) σ := by
  show W (capped (l.map AV.int)) σ Q X = _; rw [capped_ok (by rw [List.length_map]; exact h)]; rfl
theorem isList_seq {v : AV} {l : List AV} (h : SqV σ v l) : isList v = true := by cases h <;> rfl
theorem add_seq {a b : AV} {l m : List AV} (h : SqV σ a l) (g : SqV σ b m) (hl : l.length + m.length ≤ 1000) {Q : QP AV} : W (binM .Add a b) σ Q X = Q (.lst (l ++ m)) σ := by
  have : binM .Add a b = (if isList a && isList b then do
      let xs ← toSeq a
      let ys ← toSeq b
      if xs.length + ys.length ≤ sizeCap then pure (.lst (xs ++ ys)) else failM
    else failM) := by cases h <;> cases g <;> rfl
  rw [this, if_pos (by rw [isList_seq h, isList_seq g]; rfl), W_bind, toSeq_seq h, W_bind, toSeq_seq g, if_pos (show _ ≤ sizeCap from hl)]; rfl
theorem len_seq {v : AV} {l : List AV} (h : SqV σ v l) {Q : QP AV} : kB (blF "len") [v] σ Q X = Q (.int l.length) σ := by
  show W (toSeq v >>= fun l => pure (.int (l.length : Int))) σ Q X = _
  rw [W_bind, toSeq_seq h]; rfl
theorem len_tup {l : List AV} (h : l.length ≤ 1000) {Q : QP AV} : kB (blF "len") [.tup l] σ Q X = Q (.int l.length) σ := by
  show W (toSeq (.tup l) >>= fun l => pure (.int (l.length : Int))) σ Q X = _
  rw [W_bind, toSeq_tup h]; rfl
theorem tuple_seq {v : AV} {l : List AV} (h : SqV σ v l) {Q : QP AV} : kB (tyF "tuple") [v] σ Q X = Q (.tup l) σ := by
  have : callM (fun _ _ => failM) (tyF "tuple") [v] = (if isList v then do return .tup (← toSeq v) else failM) := by cases h <;> rfl
  show W (callM _ _ _) σ Q X = _
  rw [this, if_pos (isList_seq h), W_bind, toSeq_seq h]; rfl
theorem item_seq {v : AV} {l : List AV} (h : SqV σ v l) {k : Nat} {x : AV} (e : l[k]? = some x) {Q : QP AV} : W (itemM v (.int (k : Int))) σ Q X = Q x σ := by
  have : itemM v (.int (k : Int)) = (do
    let l ← toSeq v
    if 0 ≤ (k : Int) then (match l[(k : Int).toNat]? with
      | some v => pure v
      | Option.none => failM) else failM) := by cases h <;> rfl
  rw [this, W_bind, toSeq_seq h, if_pos (Int.natCast_nonneg _), Int.toNat_natCast, e]; rfl
theorem item_tup {l : List AV} (h : l.length ≤ 1000) {k : Nat} {x : AV} (e : l[k]? = some x) {Q : QP AV} : W (itemM (.tup l) (.int (k : Int))) σ Q X = Q x σ := by
  have : itemM (.tup l) (.int (k : Int)) = (do
    let l ← toSeq (.tup l)
    if 0 ≤ (k : Int) then (match l[(k : Int).toNat]? with
      | some v => pure v
      | Option.none => failM) else failM) := rfl
  rw [this, W_bind, toSeq_tup h, if_pos (Int.natCast_nonneg _), Int.toNat_natCast, e]; rfl
theorem getF_at {i : Nat} {c : Addr} {l : List (Str × AV)} {x : Str} {v : AV} (e : σ[i]? = some (.inst c l)) (hf : T.fieldOk c x = true) (hl : l.lookup x = some v) (ht : isTop v = false) {Q : QP AV} : kF (.obj i) x σ Q X = Q v σ := by
  show W (getF T.fieldOk (.obj i) x) σ Q X = _
  unfold getF
  rw [W_bind, W_get e]; dsimp only; rw [if_pos hf, hl]; dsimp only; rw [if_neg (by rw [ht]; exact Bool.false_ne_true)]; rfl
theorem setF_at {i : Nat} {c : Addr} {l : List (Str × AV)} {x : Str} {v : AV} (e : σ[i]? = some (.inst c l)) (hf : T.fieldOk c x = true) (hl : l.length < 1000) {Q : AHeap → Prop} : kS (.obj i) x v σ Q X = Q (σ.set i (.inst c (putF x v l))) := by
  show W (setF T.fieldOk (.obj i) x v) σ _ X = _
  unfold setF
  rw [W_bind, W_get e]; dsimp only; rw [if_pos (by rw [hf, decide_eq_true (show l.length < sizeCap from hl)]; rfl), W_set (get_lt e)]
theorem app_at {c : KCallee} {i : Nat} {l : List AV} (e : σ[i]? = some (.list l)) (h : l.length < 1000) {v : AV} {Q : QP AV} : kMethM c .append (.obj i) [v] σ Q X = Q .none (σ.set i (.list (l ++ [v]))) := by
  show W (getObj i >>= _) σ Q X = _
  rw [W_bind, W_get e]; dsimp only; rw [if_pos (show l.length < sizeCap from h), W_bind, W_set (get_lt e)]; rfl
theorem ext_at {c : KCallee} {i : Nat} {l m : List AV} (e : σ[i]? = some (.list l)) (h : l.length + m.length ≤ 1000) {Q : QP AV} : kMethM c .extend (.obj i) [.lst m] σ Q X = Q .none (σ.set i (.list (l ++ m))) := by
  show W (getObj i >>= _) σ Q X = _
  rw [W_bind, W_get e]; dsimp only; rw [if_pos (show l.length + m.length ≤ sizeCap from h), W_bind, W_set (get_lt e)]; rfl
theorem mk_app {i : Nat} {l : List AV} (e : σ[i]? = some (.list l)) {Q : QP MK} : kM (.obj i) "append" σ Q X = Q .append σ := by
  show W (getObj i >>= _) σ Q X = _
  rw [W_bind, W_get e]; rfl
theorem mk_ext {i : Nat} {l : List AV} (e : σ[i]? = some (.list l)) {Q : QP MK} : kM (.obj i) "extend" σ Q X = Q .extend σ := by
  show W (getObj i >>= _) σ Q X = _
  rw [W_bind, W_get e]; rfl
theorem mk_get {i : Nat} {l : List (Str × AV)} (e : σ[i]? = some (.dict l)) {Q : QP MK} : kM (.obj i) "get" σ Q X = Q .dget σ := by
  show W (getObj i >>= _) σ Q X = _
  rw [W_bind, W_get e]; rfl
theorem dget_at {c : KCallee} {i : Nat} {l : List (Str × AV)} (e : σ[i]? = some (.dict l)) {s : Str} {d : AV} {Q : QP AV} : kMethM c .dget (.obj i) [.str s, d] σ Q X = Q ((l.lookup s).getD d) σ := by
  show W (getObj i >>= _) σ Q X = _
  rw [W_bind, W_get e]; rfl
theorem put_dict {i : Nat} {l : List (Str × AV)} (e : σ[i]? = some (.dict l)) (h : l.length < 1000) {s : Str} {v : AV} {Q : AHeap → Prop} : kPut (.obj i) (.str s) v σ Q X = Q (σ.set i (.dict (putF s v l))) := by
  show W (getObj i >>= _) σ _ X = _
  rw [W_bind, W_get e]
  show W (if l.length < sizeCap then setObj i (.dict (putF s v l)) else failM) σ _ X = _
  rw [if_pos (show l.length < sizeCap from h), W_set (get_lt e)]

theorem kIs_of {op : CmpOp} {a b : AV} {r : Bool} (h : cmpM op a b = pure (.bool r)) {p q : AHeap → Prop} : kIs op a b σ p q X = kIf r (p σ) (q σ) := by
  show W (cmpM op a b) σ _ X = _
  rw [h]; rfl
theorem eqM_of {a b : AV} {p q : PyData} (ha : toPD a = some p) (hb : toPD b = some q) (hp : SeqAt.shaped p = true) (hq : SeqAt.shaped q = true) (hn : (isNil b && isList a) = false) : eqM a b = pure (PyData.eqv p q) := by
  unfold eqM
  rw [if_neg (by rw [hn]; exact Bool.false_ne_true), ha, hb]; dsimp only; rw [if_pos (by rw [hp, hq]; rfl)]
theorem sh_str {s : Str} (h : PyData.strOk s = true) : SeqAt.shaped (.str s) = true := by unfold SeqAt.shaped PyData.canLay0; rw [h]; rfl
theorem cmp_eq_str {a b : Str} (ha : PyData.strOk a = true) (hb : PyData.strOk b = true) : cmpM .Eq (.str a) (.str b) = pure (.bool (decide (a = b))) := by
  show (eqM (.str a) (.str b) >>= fun t => pure (AV.bool t)) = _
  rw [eqM_of (p := .str a) (q := .str b) rfl rfl (sh_str ha) (sh_str hb) rfl, show PyData.eqv (.str a) (.str b) = (a == b) from rfl, str_beq']; rfl
theorem cmp_ne_str {a b : Str} (ha : PyData.strOk a = true) (hb : PyData.strOk b = true) : cmpM .NotEq (.str a) (.str b) = pure (.bool (!decide (a = b))) := by
  show (eqM (.str a) (.str b) >>= fun t => pure (AV.bool (!t))) = _
  rw [eqM_of (p := .str a) (q := .str b) rfl rfl (sh_str ha) (sh_str hb) rfl, show PyData.eqv (.str a) (.str b) = (a == b) from rfl, str_beq']; rfl
theorem cmp_eq_int {a b : Int} : cmpM .Eq (.int a) (.int b) = pure (.bool (decide (a = b))) := by
  show (eqM (.int a) (.int b) >>= fun t => pure (AV.bool t)) = _
  rw [eqM_of (p := .int a) (q := .int b) rfl rfl rfl rfl rfl]
  show (pure (.bool (a == b)) : M AV) = _
  congr 2
theorem W_eq_nil {v : AV} {l : List AV} (h : SqV σ v l) {Q : QP AV} : W (cmpM .Eq v (.lst [])) σ Q X = Q (.bool l.isEmpty) σ := by
  show W (eqM v (.lst []) >>= fun t => pure (AV.bool t)) σ Q X = _
  unfold eqM
  rw [if_pos (by rw [isList_seq h]; rfl), W_bind, W_bind, toSeq_seq h]; rfl
theorem W_ne_nil {v : AV} {l : List AV} (h : SqV σ v l) {Q : QP AV} : W (cmpM .NotEq v (.lst [])) σ Q X = Q (.bool (!l.isEmpty)) σ := by
  show W (eqM v (.lst []) >>= fun t => pure (AV.bool (!t))) σ Q X = _
  unfold eqM
  rw [if_pos (by rw [isList_seq h]; rfl), W_bind, W_bind, toSeq_seq h]; rfl
theorem kIs_ne_nil {v : AV} {l : List AV} (h : SqV σ v l) {p q : AHeap → Prop} : kIs .NotEq v (.lst []) σ p q X = kIf (!l.isEmpty) (p σ) (q σ) := W_ne_nil h
theorem kIs_eq_nil {v : AV} {l : List AV} (h : SqV σ v l) {p q : AHeap → Prop} : kIs .Eq v (.lst []) σ p q X = kIf l.isEmpty (p σ) (q σ) := W_eq_nil h
end

/-! the loops' rules -/
noncomputable def Stands {α : Type} (src : Src) (f : Nat → α → AV) (as : List α) (σ : AHeap) : Prop := as.length ≤ 1000 ∧ ∀ (k : Nat) (Q : QP (Option AV)) (X : XP), W (srcNext src k) σ Q X = Q (as[k]?.map (f k)) σ
noncomputable def Gives {α : Type} (src : Src) (f : Nat → α → AV) (as : List α) : Prop := ∀ σ, Stands src f as σ
section
variable {σ : AHeap} {X : XP} {α : Type}
theorem stands_seq {s : AV} {t : α → AV} {as : List α} (h : SqV σ s (as.map t)) : Stands (.seq s) (fun _ => t) as σ := ⟨by simpa using h.le, fun k Q X => by
  unfold srcNext; rw [W_bind, toSeq_seq h, W_pure, List.getElem?_map]⟩
theorem stands_enum {s : AV} {t : α → AV} {as : List α} (h : SqV σ s (as.map t)) : Stands (.enum s) (fun k a => .tup [.int (k : Int), t a]) as σ := ⟨by simpa using h.le, fun k Q X => by
  unfold srcNext; rw [W_bind, toSeq_seq h, W_pure, List.getElem?_map, Option.map_map]; rfl⟩
theorem gives_seq {t : α → AV} {as : List α} (h : as.length ≤ 1000) : Gives (.seq (.tup (as.map t))) (fun _ => t) as := fun σ => ⟨h, fun k Q X => by
  unfold srcNext; rw [W_bind, toSeq_tup (by simpa using h), W_pure, List.getElem?_map]⟩
theorem gives_lst {t : α → AV} {as : List α} (h : as.length ≤ 1000) : Gives (.seq (.lst (as.map t))) (fun _ => t) as := fun σ => stands_seq (.lst (by simpa using h))
theorem gives_enum {t : α → AV} {as : List α} (h : as.length ≤ 1000) : Gives (.enum (.tup (as.map t))) (fun k a => .tup [.int (k : Int), t a]) as := fun σ => ⟨h, fun k Q X => by
  unfold srcNext; rw [W_bind, toSeq_tup (by simpa using h), W_pure, List.getElem?_map, Option.map_map]; rfl⟩
theorem gives_range {n : Nat} (h : n ≤ 1000) : Gives (.range n) (fun k (_ : Nat) => .int (k : Int)) (List.range n) := fun σ => ⟨by simpa using h, fun k Q X => by
  unfold srcNext
  rw [W_pure]
  by_cases hk : k < n
  · rw [if_pos hk, List.getElem?_range hk]; rfl
  · rw [if_neg hk, List.getElem?_eq_none (by simpa using hk)]; rfl⟩
theorem comp_pure {body : AV → KM (Option AV)} {src : Src} {f : Nat → α → AV} {as : List α} {g : α → Option AV} (hs : Stands src f as σ) (hb : ∀ (k : Nat) (a : α), a ∈ as → ∀ Q : QP (Option AV), Q (g a) σ → body (f k a) σ Q X)
    {Q : QP (List AV)} (hq : Q (as.filterMap g) σ) : realLoops.comp body src σ Q X := by
  have key : ∀ (n fuel k : Nat) (Q : QP (List AV)), as.length = k + n → n < fuel → Q ((as.drop k).filterMap g) σ → loopC body src fuel k σ Q X := by
    intro n
    induction n with
    | zero =>
      intro fuel k Q hl hf hq
      obtain ⟨fuel, rfl⟩ : ∃ m, fuel = m + 1 := ⟨fuel - 1, by omega⟩
      unfold loopC
      rw [hs.2, List.getElem?_eq_none (by omega)]
      rw [List.drop_eq_nil_of_le (by omega)] at hq
      exact hq
    | succ n ih =>
      intro fuel k Q hl hf hq
      obtain ⟨fuel, rfl⟩ : ∃ m, fuel = m + 1 := ⟨fuel - 1, by omega⟩
      unfold loopC
      have hk : k < as.length := by omega
      rw [hs.2, List.getElem?_eq_getElem hk]
      refine hb k _ (List.getElem_mem hk) _ (ih _ _ _ (by omega) (by omega) ?_)
      rw [List.drop_eq_getElem_cons hk, List.filterMap_cons] at hq
      split at hq <;> rename_i e <;> rw [e] <;> exact hq
  exact key as.length loopFuel 0 Q (by omega) (by have := hs.1; unfold loopFuel; omega) hq
theorem comp_inv {body : AV → KM (Option AV)} {src : Src} {f : Nat → α → AV} {as : List α} (g : Gives src f as) (I : List α → List AV → AHeap → Prop)
    (step : ∀ pre a post acc σ1 (Q1 : QP (Option AV)), as = pre ++ a :: post → I pre acc σ1 → (∀ x σ2, I (pre ++ [a]) (acc ++ [x]) σ2 → Q1 (some x) σ2) → body (f pre.length a) σ1 Q1 X)
    (h0 : I [] [] σ) {Q : QP (List AV)} (he : ∀ acc σ', I as acc σ' → Q acc σ') : realLoops.comp body src σ Q X := by
  have key : ∀ (post pre : List α) (acc : List AV) (fuel : Nat) (σ1 : AHeap) (Q1 : QP (List AV)), as = pre ++ post → post.length < fuel → I pre acc σ1 → (∀ out σ', I as (acc ++ out) σ' → Q1 out σ') → loopC body src fuel pre.length σ1 Q1 X := by
    intro post
    induction post with
    | nil =>
      intro pre acc fuel σ1 Q1 hi hf hI hq
      obtain ⟨fuel, rfl⟩ : ∃ m, fuel = m + 1 := ⟨fuel - 1, by omega⟩
      unfold loopC
      rw [(g σ1).2, hi, List.getElem?_eq_none (by simp)]
      rw [List.append_nil] at hi
      exact hq [] σ1 (by rw [List.append_nil, hi]; exact hI)
    | cons v post ih =>
      intro pre acc fuel σ1 Q1 hi hf hI hq
      obtain ⟨fuel, rfl⟩ : ∃ m, fuel = m + 1 := ⟨fuel - 1, by simp at hf; omega⟩
      unfold loopC
      rw [(g σ1).2, hi, List.getElem?_append_right (Nat.le_refl _), Nat.sub_self]
      refine step pre v post acc σ1 _ hi hI fun x σ2 h2 => ?_
      have := ih (pre ++ [v]) (acc ++ [x]) fuel σ2 (fun out σ' => Q1 (x :: out) σ') (by rw [hi]; simp) (by simp at hf; omega) h2 (fun out σ' h => hq (x :: out) σ' (by simpa using h))
      rw [List.length_append] at this
      exact this
  exact key as [] [] loopFuel σ Q rfl (by have := (g σ).1; unfold loopFuel; omega) h0 fun out σ' h => he out σ' h
theorem loop_inv {body : AV → KM (Option AV)} {src : Src} {f : Nat → α → AV} {as : List α} (g : Gives src f as) (I : List α → AHeap → Prop) {Q : QP (Option AV)}
    (step : ∀ pre a post σ1 (Q1 : QP (Option AV)), as = pre ++ a :: post → I pre σ1 → (∀ σ2, I (pre ++ [a]) σ2 → Q1 none σ2) → (∀ r σ2, Q (some r) σ2 → Q1 (some r) σ2) → body (f pre.length a) σ1 Q1 X)
    (h0 : I [] σ) (he : ∀ σ', I as σ' → Q none σ') : realLoops.loop body src σ Q X := by
  have key : ∀ (post pre : List α) (fuel : Nat) (σ1 : AHeap), as = pre ++ post → post.length < fuel → I pre σ1 → loopF body src fuel pre.length σ1 Q X := by
    intro post
    induction post with
    | nil =>
      intro pre fuel σ1 hi hf hI
      obtain ⟨fuel, rfl⟩ : ∃ m, fuel = m + 1 := ⟨fuel - 1, by omega⟩
      unfold loopF
      rw [(g σ1).2, hi, List.getElem?_eq_none (by simp)]
      rw [List.append_nil] at hi
      exact he σ1 (by rw [hi]; exact hI)
    | cons v post ih =>
      intro pre fuel σ1 hi hf hI
      obtain ⟨fuel, rfl⟩ : ∃ m, fuel = m + 1 := ⟨fuel - 1, by simp at hf; omega⟩
      unfold loopF
      rw [(g σ1).2, hi, List.getElem?_append_right (Nat.le_refl _), Nat.sub_self]
      refine step pre v post σ1 _ hi hI (fun σ2 h2 => ?_) fun r σ2 h => h
      have := ih (pre ++ [v]) fuel σ2 (by rw [hi]; simp) (by simp at hf; omega) h2
      rw [List.length_append] at this
      exact this
  exact key as [] loopFuel σ rfl (by have := (g σ).1; unfold loopFuel; omega) h0
theorem loop_seq {body : AV → KM (Option AV)} {src : Src} {f : Nat → α → AV} {as : List α} {Q : QP (Option AV)} (hs : Stands src f as σ) (P : List α → Prop)
    (step : ∀ pre a post (Q1 : QP (Option AV)), as = pre ++ a :: post → P pre → (P (pre ++ [a]) → Q1 none σ) → (∀ r σ2, Q (some r) σ2 → Q1 (some r) σ2) → body (f pre.length a) σ Q1 X)
    (h0 : P []) (he : P as → Q none σ) : realLoops.loop body src σ Q X := by
  have key : ∀ (post pre : List α) (fuel : Nat), as = pre ++ post → post.length < fuel → P pre → loopF body src fuel pre.length σ Q X := by
    intro post
    induction post with
    | nil =>
      intro pre fuel hi hf hp
      obtain ⟨fuel, rfl⟩ : ∃ m, fuel = m + 1 := ⟨fuel - 1, by omega⟩
      unfold loopF
      rw [hs.2, hi, List.getElem?_eq_none (by simp)]
      rw [List.append_nil] at hi
      exact he (by rw [hi]; exact hp)
    | cons v post ih =>
      intro pre fuel hi hf hp
      obtain ⟨fuel, rfl⟩ : ∃ m, fuel = m + 1 := ⟨fuel - 1, by simp at hf; omega⟩
      unfold loopF
      rw [hs.2, hi, List.getElem?_append_right (Nat.le_refl _), Nat.sub_self]
      refine step pre v post _ hi hp (fun hp => ?_) fun r σ2 h => h
      have := ih (pre ++ [v]) fuel (by rw [hi]; simp) (by simp at hf; omega) hp
      rw [List.length_append] at this
      exact this
  exact key as [] loopFuel rfl (by have := hs.1; unfold loopFuel; omega) h0
end
end Mine
end
section
namespace Mine
open PySem

noncomputable def hash (i : Nat) : Str := Str.ofString "#" ++ intText ((i : Int) + 1)
theorem upTo8 {i : Nat} (h : i ≤ 8) : i = 0 ∨ i = 1 ∨ i = 2 ∨ i = 3 ∨ i = 4 ∨ i = 5 ∨ i = 6 ∨ i = 7 ∨ i = 8 := (by decide : ∀ i, i ≤ 8 → i = 0 ∨ i = 1 ∨ i = 2 ∨ i = 3 ∨ i = 4 ∨ i = 5 ∨ i = 6 ∨ i = 7 ∨ i = 8) i h
section
variable {σ : AHeap} {X : XP}
theorem kHash_W {i : Nat} (h : i ≤ 8) {Q : QP AV} : kHash ((i : Int) + 1) σ Q X = Q (.str (hash i)) σ := by
  rcases upTo8 h with rfl | rfl | rfl | rfl | rfl | rfl | rfl | rfl | rfl <;> kernel_rfl
noncomputable def pn (i : Nat) (a : Arg) : Str := match a.core.isRow with
  | true => hash i
  | false => a.core.nm
noncomputable def Arg.pat (a : Arg) : AV := match a.core.isRow with
  | true => rowT
  | false => .none
theorem told_param_W {n : Nat} (hn : 4 ≤ n) {a : Arg} {i : Nat} (hi : i ≤ 8) {Q : QP AV} (hq : a.core.good = true → Q (.tup [.obj σ.length, a.pat]) (σ ++ [paramO 120 (.str (pn i a)) a.core.kindV a.dft.val a.rest])) (hx : a.core.good = false → X σ) :
    CW n 190 [a.tree, .int (i : Int)] σ Q X := by
  refine run_W (d := 2) (by exact ar_ge (by assumption) (by decide)) fu_190 ?_
  rw [told_param_sh]
  unfold Arg.told
  split
  · rename_i h; exact hx h
  · rename_i h1 h2
    have := hq h1
    unfold Arg.pat pn at this
    rw [h2] at this
    rw [kHash_W hi]; exact this
  · rename_i h1 h2
    have := hq h1
    unfold Arg.pat pn at this
    rw [h2] at this
    exact this
end

noncomputable abbrev PI := AV × Str × Arg
noncomputable def PAt (k : Addr) (σ : AHeap) (x : PI) : Prop := ∃ j kd, x.1 = .obj j ∧ isTop kd = false ∧ σ[j]? = some (paramO k (.str x.2.1) kd x.2.2.dft.val x.2.2.rest)
noncomputable def AllAt (k : Addr) (σ : AHeap) (ps : List PI) : Prop := ∀ x ∈ ps, PAt k σ x
theorem PAt.keep {k : Addr} {σ σ' : AHeap} {x : PI} (h : PAt k σ x) (e : Keep σ σ') : PAt k σ' x := by
  obtain ⟨j, kd, a, b, c⟩ := h; exact ⟨j, kd, a, b, e _ _ c⟩
theorem AllAt.keep {k : Addr} {σ σ' : AHeap} {ps : List PI} (h : AllAt k σ ps) (e : Keep σ σ') : AllAt k σ' ps := fun x m => (h x m).keep e
noncomputable def notInst : AObj → Bool
  | .inst _ _ => false
  | _ => true
theorem AllAt.set {k : Addr} {σ : AHeap} {ps : List PI} (h : AllAt k σ ps) {i : Nat} {o p : AObj} (e : σ[i]? = some p) (hp : notInst p = true) : AllAt k (σ.set i o) ps := fun x m => by
  obtain ⟨j, kd, a, b, c⟩ := h x m
  refine ⟨j, kd, a, b, get_set_ne (fun q => ?_) c⟩
  subst q; rw [e] at c; cases c; exact Bool.false_ne_true hp
theorem AllAt.append {k : Addr} {σ : AHeap} {ps : List PI} (h : AllAt k σ ps) {x : PI} (hx : PAt k σ x) : AllAt k σ (ps ++ [x]) := fun y m => by
  rcases List.mem_append.mp m with m | m
  · exact h y m
  · rw [List.mem_singleton.mp m]; exact hx
theorem AllAt.nil {k : Addr} {σ : AHeap} : AllAt k σ [] := fun x m => (nomatch m)

noncomputable def numL (f : Nat → Arg → Str) : Nat → List Arg → List (Str × Arg)
  | _, [] => []
  | s, a :: r => (f s a, a) :: numL f (s + 1) r
theorem numL_append (f : Nat → Arg → Str) : ∀ (as bs : List Arg) (s : Nat), numL f s (as ++ bs) = numL f s as ++ numL f (s + as.length) bs
  | [], bs, s => rfl
  | a :: r, bs, s => by
    show _ :: numL f (s + 1) (r ++ bs) = _ :: (numL f (s + 1) r ++ numL f (s + (r.length + 1)) bs)
    rw [numL_append f r bs (s + 1), show s + 1 + r.length = s + (r.length + 1) by omega]
theorem numL_len (f : Nat → Arg → Str) : ∀ (as : List Arg) (s : Nat), (numL f s as).length = as.length
  | [], _ => rfl
  | a :: r, s => by rw [numL, List.length_cons, List.length_cons, numL_len f r]
theorem numL_snd (f : Nat → Arg → Str) : ∀ (as : List Arg) (s : Nat), (numL f s as).map (·.2) = as
  | [], _ => rfl
  | a :: r, s => by rw [numL, List.map_cons, numL_snd f r]

noncomputable abbrev goods (as : List Arg) : Bool := as.all fun a => a.core.good
theorem isTop_kindV (c : Core) : isTop c.kindV = false := by cases c <;> rfl
theorem f120n : T.fieldOk 120 "name" = true := by kernel_rfl
theorem f120k : T.fieldOk 120 "kind" = true := by kernel_rfl
theorem f120d : T.fieldOk 120 "default" = true := by kernel_rfl
theorem f120r : T.fieldOk 120 "is_rest" = true := by kernel_rfl
theorem f258n : T.fieldOk 258 "name" = true := by kernel_rfl
theorem f258k : T.fieldOk 258 "kind" = true := by kernel_rfl
theorem f258d : T.fieldOk 258 "default" = true := by kernel_rfl
theorem f258r : T.fieldOk 258 "is_rest" = true := by kernel_rfl
theorem lk_n (a b c d : AV) : List.lookup ("name" : Str) [(("name" : Str), a), ("kind", b), ("default", c), ("is_rest", d)] = some a := by kernel_rfl
theorem lk_d (a b c d : AV) : List.lookup ("default" : Str) [(("name" : Str), a), ("kind", b), ("default", c), ("is_rest", d)] = some c := by kernel_rfl
theorem lk_r (a b c d : AV) : List.lookup ("is_rest" : Str) [(("name" : Str), a), ("kind", b), ("default", c), ("is_rest", d)] = some d := by kernel_rfl
section
variable {σ : AHeap} {X : XP} {k : Addr} {x : PI}
theorem kF_name (hk : T.fieldOk k "name" = true) (h : PAt k σ x) {Q : QP AV} : kF x.1 "name" σ Q X = Q (.str x.2.1) σ := by
  obtain ⟨j, kd, a, b, c⟩ := h
  rw [a]; exact getF_at c hk (lk_n ..) rfl
theorem kF_default (hk : T.fieldOk k "default" = true) (h : PAt k σ x) {Q : QP AV} : kF x.1 "default" σ Q X = Q x.2.2.dft.val σ := by
  obtain ⟨j, kd, a, b, c⟩ := h
  rw [a]; exact getF_at c hk (lk_d ..) (by cases x.2.2.dft <;> rfl)
theorem kF_rest (hk : T.fieldOk k "is_rest" = true) (h : PAt k σ x) {Q : QP AV} : kF x.1 "is_rest" σ Q X = Q (.bool x.2.2.rest) σ := by
  obtain ⟨j, kd, a, b, c⟩ := h
  rw [a]; exact getF_at c hk (lk_r ..) rfl

inductive ParInv (σ : AHeap) (pre : List Arg) (σ' : AHeap) : Prop
  | mk (g : goods pre = true) (kp : Keep σ σ') (ps : List PI) (ah : List AV) (h1 : ps.map (·.2) = numL pn 0 pre) (h2 : AllAt 120 σ' ps) (h3 : σ'[σ.length]? = some (.list (ps.map (·.1)))) (h4 : σ'[σ.length + 1]? = some (.list ah)) (h5 : ah.length ≤ pre.length) : ParInv σ pre σ'
theorem told_params_W {n : Nat} (hn : 7 ≤ n) {as : List Arg} {body : AV} (hl : as.length ≤ 5) {Q : QP AV}
    (hq : goods as = true → ∀ (σ' : AHeap) (ps : List PI) (whole : AV), Keep σ σ' → ps.map (·.2) = numL pn 0 as → AllAt 120 σ' ps → σ'[σ.length]? = some (.list (ps.map (·.1))) →
      (whole = body ∨ ∃ t, whole = .tup [.str "expr", .str "block", .tup t]) → Q (.tup [.obj σ.length, whole]) σ')
    (hx : goods as = false → ∀ σ', Keep σ σ' → X σ') :
    CW n 183 [.tup (as.map Arg.tree), body] σ Q X := by
  refine run_W (d := 2) (by exact ar_ge (by assumption) (by decide)) fu_183 ?_
  rw [told_params_sh, toSeq_tup (by simp; omega)]
  have hlen : (σ ++ [nl]).length = σ.length + 1 := by simp
  rw [hlen]
  refine loop_inv (gives_enum (t := Arg.tree) (as := as) (by exact ar_le (by assumption) (by decide))) (ParInv σ) ?_ ?_ ?_
  · rintro pre a post σ1 Q1 e ⟨g, kp, ps, ah, h1, h2, h3, h4, h5⟩ hnx hr
    have hpl : pre.length ≤ 4 := by have := congrArg List.length e; simp at this; omega
    have hps : ps.length = pre.length := by have := congrArg List.length h1; simpa [numL_len] using this
    have hlt := get_lt h4
    show CW _ 190 [a.tree, .int (pre.length : Int)] σ1 _ X
    refine told_param_W (by exact ar_fu (by assumption) (by decide)) (by exact ar_le (by assumption) (by decide)) (fun hg => ?_) (fun hg => ?_)
    · have e3 : (σ1 ++ [paramO 120 (.str (pn pre.length a)) a.core.kindV a.dft.val a.rest])[σ.length]? = some (.list (ps.map (·.1))) := Keep.app _ _ _ _ h3
      have e4 : (σ1 ++ [paramO 120 (.str (pn pre.length a)) a.core.kindV a.dft.val a.rest])[σ.length + 1]? = some (.list ah) := Keep.app _ _ _ _ h4
      have hp : PAt 120 (σ1 ++ [paramO 120 (.str (pn pre.length a)) a.core.kindV a.dft.val a.rest]) (.obj σ1.length, pn pre.length a, a) := ⟨_, _, rfl, isTop_kindV _, get_app _ _ _⟩
      have all := (h2.keep (Keep.app σ1 [paramO 120 (.str (pn pre.length a)) a.core.kindV a.dft.val a.rest])).append hp
      have kk := kp.trans (Keep.app σ1 [paramO 120 (.str (pn pre.length a)) a.core.kindV a.dft.val a.rest])
      generalize σ1 ++ [paramO 120 (.str (pn pre.length a)) a.core.kindV a.dft.val a.rest] = σ2 at *
      show kM (.obj σ.length) "append" σ2 _ X
      rw [mk_app e3]
      show kMethM _ .append (.obj σ.length) [.obj σ1.length] σ2 _ X
      rw [app_at e3 (by simp; omega)]
      have e5 := get_set (o := .list (ps.map (·.1) ++ [.obj σ1.length])) e3
      have e6 := get_set_ne (i := σ.length) (o := .list (ps.map (·.1) ++ [.obj σ1.length])) (by omega) e4
      have all2 := all.set (o := .list (ps.map (·.1) ++ [.obj σ1.length])) e3 rfl
      have kk2 := kk.set (i := σ.length) (Nat.le_refl _) (.list (ps.map (·.1) ++ [.obj σ1.length]))
      generalize σ2.set σ.length (.list (ps.map (·.1) ++ [.obj σ1.length])) = σ3 at *
      have g' : goods (pre ++ [a]) = true := by simp only [List.all_append, g, List.all_cons, hg, List.all_nil, Bool.and_self]
      have n1 : (ps ++ [((AV.obj σ1.length, pn pre.length a, a) : PI)]).map (·.2) = numL pn 0 (pre ++ [a]) := by
        rw [List.map_append, h1, numL_append, Nat.zero_add]; rfl
      have hpat : cmpM .IsNot a.pat .none = pure (.bool a.core.isRow) := by unfold Arg.pat; cases a.core.isRow <;> rfl
      show kIs .IsNot a.pat .none σ3 _ _ X
      rw [kIs_of hpat]
      induction a.core.isRow using Bool.casesOn with
      | false => exact hnx _ ⟨g', kk2, ps ++ [(.obj σ1.length, pn pre.length a, a)], ah, n1, all2, by rw [e5]; simp, e6, by simp; omega⟩
      | true =>
        show kM (.obj (σ.length + 1)) "append" σ3 _ X
        rw [mk_app e6]
        have hp3 : PAt 120 σ3 (.obj σ1.length, pn pre.length a, a) := all2 _ (by simp)
        show kF (.obj σ1.length) "name" σ3 _ X
        rw [kF_name (x := (.obj σ1.length, pn pre.length a, a)) f120n hp3, app_at e6 (by omega)]
        refine hnx _ ⟨g', kk2.set (by omega) _, ps ++ [(.obj σ1.length, pn pre.length a, a)], _, n1, all2.set e6 rfl, ?_, get_set e6, by simp; omega⟩
        rw [get_set_ne (by omega) e5]; simp
    · refine hx ?_ _ kp
      rw [e]; simp [goods, hg]
  · exact ⟨rfl, (Keep.app σ [nl]).trans (Keep.app _ _), [], [], rfl, AllAt.nil, by rw [List.append_assoc]; exact get_app σ nl [nl], by have := get_app (σ ++ [nl]) nl []; rwa [hlen] at this, by simp⟩
  · rintro σ' ⟨g, kp, ps, ah, h1, h2, h3, h4, h5⟩
    have sq : SqV σ' (.obj (σ.length + 1)) ah := .obj h4 (by omega)
    show kIs .Eq (.obj (σ.length + 1)) (.lst []) σ' _ _ X
    rw [kIs_eq_nil sq]
    induction ah.isEmpty using Bool.casesOn with
    | true => exact hq g _ _ _ kp h1 h2 h3 (.inl rfl)
    | false =>
      show W (binM .Add (.obj (σ.length + 1)) (.lst [body])) σ' _ X
      rw [add_seq sq (.lst (by simp)) (by simp; omega), tuple_seq (.lst (by simp; omega))]
      exact hq g _ _ _ kp h1 h2 h3 (.inr ⟨_, rfl⟩)
end
end Mine
end
section
namespace Mine
open PySem

theorem kS_last {σ : AHeap} {X : XP} {c : Addr} {l : List (Str × AV)} {x : Str} {v : AV} {Q : AHeap → Prop} (h : (T.fieldOk c x && decide (l.length < sizeCap)) = true) :
    kS (.obj σ.length) x v (σ ++ [.inst c l]) Q X = Q (σ ++ [.inst c (putF x v l)]) := W_setF_last h
theorem plain_W {σ : AHeap} {X : XP} {n : Nat} (hn : 2 ≤ n) {c p k b r y : AV} {Q : QP AV}
    (hq : ∀ (σ' : AHeap) (l : List (Str × AV)), Keep σ σ' → σ'[σ.length]? = some (.inst 162 l) → l.lookup ("params" : Str) = some p → l.lookup ("keywords" : Str) = some k → l.lookup ("binders" : Str) = some b → l.length = 10 → Q (.obj σ.length) σ') :
    CW n 162 [c, p, k, b, r, y] σ Q X := by
  obtain ⟨n, rfl⟩ : ∃ k, n = k + 2 := ⟨n - 2, by omega⟩
  refine cls_W (n := n) (kc := cw n) fu_162 in_162 fu_138 (cw_snd _) ?_
  rw [plain_sh]
  rw [kS_last (by kernel_rfl), kS_last (by kernel_rfl), kS_last (by kernel_rfl), kS_last (by kernel_rfl), kS_last (by kernel_rfl), kS_last (by kernel_rfl), kS_last (by kernel_rfl), kS_last (by kernel_rfl), kS_last (by kernel_rfl)]
  have e : ∀ (l : List (Str × AV)), (σ ++ [.inst 162 l] ++ [.dict []])[σ.length]? = some (.inst 162 l) := fun l => by rw [List.append_assoc]; exact get_app σ _ _
  rw [setF_at (e _) (by kernel_rfl) (by exact of_decide_eq_true (by kernel_rfl))]
  refine ⟨rfl, hq _ _ (((Keep.app σ _).trans (Keep.app _ _)).set (Nat.le_refl _) _) (get_set (e _)) (by kernel_rfl) (by kernel_rfl) (by kernel_rfl) (by kernel_rfl)⟩
theorem f162p : T.fieldOk 162 "params" = true := by kernel_rfl
theorem f162k : T.fieldOk 162 "keywords" = true := by kernel_rfl
theorem f162b : T.fieldOk 162 "binders" = true := by kernel_rfl
theorem f162h : T.fieldOk 162 "has_patterns" = true := by kernel_rfl

noncomputable def dup (l : List Str) : Bool := l.any fun s => decide (1 < l.count s)
noncomputable def ordPrev (A : List Arg) (a : Arg) : Nat → Bool
  | 0 => false
  | j + 1 => match A[j]? with
    | some b => b.dft.has && !a.dft.has && !a.rest
    | none => false
noncomputable def ordBad (A : List Arg) (k : Nat) : Bool := match A[k]? with
  | none => false
  | some a => (a.rest && (decide (k + 1 < A.length) || a.dft.has)) || ordPrev A a k
noncomputable def ordOk (A : List Arg) : Bool := (List.range A.length).all fun k => !ordBad A k
noncomputable abbrev noRest (K : List Arg) : Bool := K.all fun a => !a.rest

theorem countIn_str (s : Str) : ∀ ns : List Str, Spec.countIn (.str s) (ns.map PyData.str) = (ns.count s : Nat)
  | [] => rfl
  | x :: r => by
    show (if Spec.same (.str x) (.str s) then (1 : Int) else 0) + Spec.countIn (.str s) (r.map PyData.str) = _
    rw [countIn_str s r, List.count_cons]
    have : Spec.same (.str x) (.str s) = (x == s) := rfl
    rw [this]
    split <;> omega
theorem strsOf_map : ∀ ns : List Str, strsOf (ns.map AV.str) = some ns
  | [] => rfl
  | x :: r => by show (match strsOf (r.map AV.str) with | some xs => some (x :: xs) | none => none) = _; rw [strsOf_map r]
section
variable {σ : AHeap} {X : XP}
theorem count_W {c : KCallee} {ns : List Str} {s : Str} {Q : QP AV} : kM (.lst (ns.map AV.str)) "count" σ (fun m σ => kMethM c m (.lst (ns.map AV.str)) [.str s] σ Q X) X = Q (.int (ns.count s : Nat)) σ := by
  show W (onS (strsOf (ns.map AV.str)) fun ns => pure (.int (Spec.countIn (.str s) (ns.map PyData.str)))) σ Q X = _
  rw [strsOf_map, ← countIn_str]; rfl
theorem dup_filter (ns : List Str) : (!(ns.filterMap fun s => if 1 < ns.count s then some (AV.str s) else none).isEmpty) = dup ns := by
  unfold dup
  generalize hg : (fun s => if 1 < ns.count s then some (AV.str s) else none) = g
  have : ∀ l : List Str, (!(l.filterMap g).isEmpty) = l.any fun s => decide (1 < ns.count s) := by
    intro l
    induction l with
    | nil => rfl
    | cons x r ih =>
      rw [List.filterMap_cons, List.any_cons, ← ih, ← hg]
      dsimp only
      by_cases h : 1 < ns.count x
      · rw [if_pos h, decide_eq_true h]; rfl
      · rw [if_neg h, decide_eq_false h]; rfl
  exact this ns
theorem twice_comp {c : KCallee} {ns : List Str} (hl : ns.length ≤ 1000) {Q : QP (List AV)} (hq : Q (ns.filterMap fun s => if 1 < ns.count s then some (AV.str s) else none) σ) :
    realLoops.comp (fun v σ Q X => kM (.lst (ns.map AV.str)) "count" σ (fun m σ => kMethM c m (.lst (ns.map AV.str)) [v] σ (fun c σ => kIs .Gt c (.int 1) σ (fun σ => Q (some v) σ) (fun σ => Q none σ) X) X) X) (.seq (.lst (ns.map AV.str))) σ Q X := by
  refine comp_pure (gives_lst (t := AV.str) hl σ) (fun k s hs Q hq => ?_) hq
  rw [count_W]
  show kIs .Gt (.int (ns.count s : Nat)) (.int 1) σ _ _ X
  rw [kIs_of (r := decide ((1 : Int) < (ns.count s : Nat))) rfl]
  by_cases h : 1 < ns.count s
  · rw [if_pos h] at hq
    rw [decide_eq_true (by omega)]; exact hq
  · rw [if_neg h] at hq
    rw [decide_eq_false (by omega)]; exact hq

theorem is_dft (d : Dft) : cmpM .IsNot d.val .none = pure (.bool d.has) := by cases d <;> rfl
theorem is_dft' (d : Dft) : cmpM .Is d.val .none = pure (.bool (!d.has)) := by cases d <;> rfl
variable {k : Addr} {x y : PI}
theorem sub_W {a b : Int} {Q : QP AV} : W (binM .Sub (.int a) (.int b)) σ Q X = Q (.int (a - b)) σ := rfl
theorem addI_W {a b : Int} {Q : QP AV} : W (binM .Add (.int a) (.int b)) σ Q X = Q (.int (a + b)) σ := rfl
theorem kFT_rest (hk : T.fieldOk k "is_rest" = true) (h : PAt k σ x) {p q : AHeap → Prop} : kFT x.1 "is_rest" σ p q X = kIf x.2.2.rest (p σ) (q σ) := kF_rest hk h
theorem ordA_W (hd : T.fieldOk k "default" = true) (hr : T.fieldOk k "is_rest" = true) {len arg : KM AV} {n at_ : Nat} (hlen : ∀ Q : QP AV, Q (.int (n : Nat)) σ → len σ Q X) (harg : ∀ Q : QP AV, Q x.1 σ → arg σ Q X) (hx : PAt k σ x)
    {P : AHeap → Prop} (h1 : (x.2.2.rest && (decide (at_ + 1 < n) || x.2.2.dft.has)) = true → X σ) (h2 : (x.2.2.rest && (decide (at_ + 1 < n) || x.2.2.dft.has)) = false → P σ) : ordA len (.int (at_ : Nat)) arg σ P X := by
  unfold ordA
  refine harg _ ?_
  rw [kFT_rest hr hx]
  induction e : x.2.2.rest using Bool.casesOn with
  | false => exact h2 (by rw [e]; rfl)
  | true =>
    rw [e] at h1 h2
    refine hlen _ ?_
    rw [sub_W, kIs_of (r := decide ((at_ : Int) < (n : Int) - 1)) rfl]
    by_cases q : at_ + 1 < n
    · rw [decide_eq_true (by omega)]; exact h1 (by rw [decide_eq_true q]; rfl)
    · rw [decide_eq_false (by omega)]
      refine harg _ ?_
      rw [kF_default hd hx, kIs_of (is_dft _)]
      rw [decide_eq_false q] at h1 h2
      induction e2 : x.2.2.dft.has using Bool.casesOn with
      | true => exact h1 (by rw [e2]; rfl)
      | false => exact h2 (by rw [e2]; rfl)
theorem ordB_W0 {base arg : KM AV} {P : AHeap → Prop} (h : P σ) : ordB base (.int ((0 : Nat) : Int)) arg σ P X := h
theorem ordB_W (hd : T.fieldOk k "default" = true) (hr : T.fieldOk k "is_rest" = true) {base arg : KM AV} {b : AV} {l : List AV} {j : Nat} (hb : ∀ Q : QP AV, Q b σ → base σ Q X) (hs : SqV σ b l) (hl : l[j]? = some y.1)
    (harg : ∀ Q : QP AV, Q x.1 σ → arg σ Q X) (hx : PAt k σ x) (hy : PAt k σ y) {P : AHeap → Prop} (h1 : (y.2.2.dft.has && !x.2.2.dft.has && !x.2.2.rest) = true → X σ)
    (h2 : (y.2.2.dft.has && !x.2.2.dft.has && !x.2.2.rest) = false → P σ) : ordB base (.int ((j + 1 : Nat) : Int)) arg σ P X := by
  unfold ordB
  rw [kIs_of (r := true) (show cmpM .Gt (.int ((j + 1 : Nat) : Int)) (.int 0) = _ by show (pure (AV.bool (decide ((0 : Int) < ((j + 1 : Nat) : Int)))) : M AV) = _; rw [decide_eq_true (by omega)])]
  refine hb _ ?_
  rw [sub_W, show (((j + 1 : Nat) : Int) - 1) = ((j : Nat) : Int) by omega, item_seq hs hl, kF_default hd hy, kIs_of (is_dft _)]
  induction e1 : y.2.2.dft.has using Bool.casesOn with
  | false => exact h2 (by rw [e1]; rfl)
  | true =>
    rw [e1] at h1 h2
    refine harg _ ?_
    rw [kF_default hd hx, kIs_of (is_dft' _)]
    induction e2 : x.2.2.dft.has using Bool.casesOn with
    | true => exact h2 (by rw [e2]; rfl)
    | false =>
      rw [e2] at h1 h2
      refine harg _ ?_
      rw [kF_rest hr hx]
      induction e3 : x.2.2.rest using Bool.casesOn with
      | true => exact h2 (by rw [e3]; rfl)
      | false => exact h1 (by rw [e3]; rfl)
end
end Mine
end
section
namespace Mine
open PySem

noncomputable def Var.btup (v : Var) : AV := .tup [.str v.nm, v.lo, v.hi]
noncomputable def nonEmpty (s : Str) : Bool := !decide (s = ("" : Str))
noncomputable def namesL (f : Nat → Arg → Str) (s : Nat) (A : List Arg) : List Str := (numL f s A).map (·.1)
noncomputable def chk (A K : List Arg) (V : List Var) : Bool := !dup ((namesL pn 0 (A ++ K)).filter nonEmpty) && !dup (V.map Var.nm) && ordOk A && noRest K
theorem strOk_hash {i : Nat} (h : i ≤ 8) : PyData.strOk (hash i) = true := by
  rcases upTo8 h with rfl | rfl | rfl | rfl | rfl | rfl | rfl | rfl | rfl <;> kernel_rfl
theorem strOk_nm (c : Core) : PyData.strOk c.nm = true := by
  cases c with
  | name n => cases n <;> kernel_rfl
  | kind n => cases n <;> kernel_rfl
  | _ => kernel_rfl
theorem strOk_empty : PyData.strOk ("" : Str) = true := by kernel_rfl
theorem strOk_pn {i : Nat} (h : i ≤ 8) (a : Arg) : PyData.strOk (pn i a) = true := by
  unfold pn; split
  · exact strOk_hash h
  · exact strOk_nm _
theorem numL_mem {f : Nat → Arg → Str} : ∀ {A : List Arg} {s : Nat} {x : Str × Arg}, x ∈ numL f s A → ∃ i, s ≤ i ∧ i < s + A.length ∧ x.1 = f i x.2 ∧ x.2 ∈ A
  | [], _, _, h => (nomatch h)
  | a :: r, s, x, h => by
    rcases List.mem_cons.mp h with rfl | h
    · exact ⟨s, Nat.le_refl _, by simp, rfl, List.mem_cons_self⟩
    · obtain ⟨i, h1, h2, h3, h4⟩ := numL_mem h
      exact ⟨i, by omega, by simp only [List.length_cons]; omega, h3, List.mem_cons_of_mem _ h4⟩
theorem filterMap_names (l : List PI) : (l.filterMap fun x => match nonEmpty x.2.1 with | true => some (AV.str x.2.1) | false => none) = (((l.map (·.2)).map (·.1)).filter nonEmpty).map AV.str := by
  induction l with
  | nil => rfl
  | cons x r ih =>
    rw [List.filterMap_cons, List.map_cons, List.map_cons, List.filter_cons]
    cases nonEmpty x.2.1 <;> simp [ih]
noncomputable def restOf (x : PI) : Option AV := match x.2.2.rest with
  | true => some x.1
  | false => none
theorem rest_isEmpty (l : List PI) (K : List Arg) (h : (l.map (·.2)).map (·.2) = K) : (!(l.filterMap restOf).isEmpty) = !noRest K := by
  subst h
  induction l with
  | nil => rfl
  | cons x r ih =>
    rw [List.filterMap_cons, List.map_cons, List.map_cons, noRest, List.all_cons]
    unfold restOf at *
    induction x.2.2.rest using Bool.casesOn with
    | true => rfl
    | false => simpa using ih
section
variable {σ : AHeap} {X : XP}
theorem SqV.top {v : AV} {l : List AV} (h : SqV σ v l) : isTop v = false := by cases h <;> rfl
theorem kB_len {v : AV} {l : List AV} (h : SqV σ v l) {K : AHeap → Nat → Prop} : kB (blF "len") [v] σ (fun n σ => kRange n (K σ)) X = (l.length ≤ 1000 ∧ K σ l.length) := by
  rw [len_seq h]
  show (0 ≤ (l.length : Int) ∧ (l.length : Int) ≤ (sizeCap : Int) ∧ K σ (Int.toNat (l.length : Int))) = _
  rw [Int.toNat_natCast]
  refine propext ⟨fun ⟨_, a, b⟩ => ⟨?_, b⟩, fun ⟨a, b⟩ => ⟨by omega, ?_, b⟩⟩
  · unfold sizeCap at a; omega
  · unfold sizeCap; omega
theorem ord_at {A : List Arg} {k : Nat} {a : Arg} (h : A[k]? = some a) : ordBad A k = ((a.rest && (decide (k + 1 < A.length) || a.dft.has)) || ordPrev A a k) := by unfold ordBad; rw [h]
theorem ordPrev_at {A : List Arg} {a b : Arg} {j : Nat} (h : A[j]? = some b) : ordPrev A a (j + 1) = (b.dft.has && !a.dft.has && !a.rest) := by
  show (match A[j]? with | some b => b.dft.has && !a.dft.has && !a.rest | none => false) = _
  rw [h]
theorem ordOk_of {A : List Arg} {pre : List Nat} (h : ∀ k ∈ pre, ordBad A k = false) (e : List.range A.length = pre) : ordOk A = true := by
  unfold ordOk; rw [e]; exact List.all_eq_true.mpr fun k m => by rw [h k m]; rfl
theorem ordOk_not {A : List Arg} {k : Nat} (hk : k < A.length) (h : ordBad A k = true) : ordOk A = false := by
  unfold ordOk
  rw [List.all_eq_false]
  exact ⟨k, List.mem_range.mpr hk, by rw [h]; decide⟩
theorem range_split {n : Nat} {pre post : List Nat} {k : Nat} (e : List.range n = pre ++ k :: post) : k = pre.length ∧ k < n := by
  have h : (List.range n)[pre.length]? = (pre ++ k :: post)[pre.length]? := by rw [e]
  rw [List.getElem?_append_right (Nat.le_refl _), Nat.sub_self] at h
  have hl : pre.length < n := by have := congrArg List.length e; simp at this; omega
  rw [List.getElem?_range hl] at h
  have : pre.length = k := by simpa using h
  omega
theorem order_loop {kA : Addr} (hd : T.fieldOk kA "default" = true) (hr : T.fieldOk kA "is_rest" = true) {A : List Arg} {ps : List PI} (hA : (ps.map (·.2)).map (·.2) = A) (hl : A.length ≤ 1000) (ha : AllAt kA σ ps) {body : AV → KM (Option AV)} {Q : QP (Option AV)}
    (hb : ∀ (k : Nat) (x : PI), ps[k]? = some x → ∀ Q1 : QP (Option AV), ∃ (len base arg : KM AV) (b : AV), (∀ Q : QP AV, Q (.int (A.length : Nat)) σ → len σ Q X) ∧ (∀ Q : QP AV, Q x.1 σ → arg σ Q X) ∧
      (∀ Q : QP AV, Q b σ → base σ Q X) ∧ SqV σ b (ps.map (·.1)) ∧
      (ordA len (.int (k : Nat)) arg σ (fun σ => ordB base (.int (k : Nat)) arg σ (fun σ => Q1 none σ) X) X → body (.int (k : Nat)) σ Q1 X))
    (hq : ordOk A = true → Q none σ) (hx : ordOk A = false → X σ) : realLoops.loop body (.range A.length) σ Q X := by
  refine loop_seq (gives_range hl σ) (fun pre => ∀ k ∈ pre, ordBad A k = false) (fun pre k post Q1 e hp hn hr' => ?_) (fun k m => (nomatch m)) fun hp => hq (ordOk_of hp rfl)
  obtain ⟨rfl, hk⟩ := range_split e
  have hps : ps.length = A.length := by have := congrArg List.length hA; simpa using this
  have hx0 : ps[pre.length]? = some ps[pre.length] := List.getElem?_eq_getElem (by omega)
  generalize ps[pre.length] = x at hx0
  have hAk : A[pre.length]? = some x.2.2 := by rw [← hA, List.getElem?_map, List.getElem?_map, hx0]; rfl
  obtain ⟨len, base, arg, b, h1, h2, h3, h4, h5⟩ := hb _ x hx0 Q1
  have hxa := ha x (List.mem_of_getElem? hx0)
  have bad := ord_at hAk
  refine h5 (ordA_W hd hr h1 h2 hxa (fun q => hx (ordOk_not hk (by rw [bad, q]; rfl))) fun q => ?_)
  have next : ordBad A pre.length = false → Q1 none σ := fun q => hn fun k m => by
    rcases List.mem_append.mp m with m | m
    · exact hp k m
    · rw [List.mem_singleton.mp m]; exact q
  rw [q] at bad
  generalize hk' : pre.length = kk at *
  induction kk using Nat.casesOn with
  | zero => exact ordB_W0 (next (by rw [bad]; rfl))
  | succ j =>
    have hy0 : ps[j]? = some ps[j] := List.getElem?_eq_getElem (by omega)
    generalize ps[j] = y at hy0
    have hAj : A[j]? = some y.2.2 := by rw [← hA, List.getElem?_map, List.getElem?_map, hy0]; rfl
    rw [ordPrev_at hAj] at bad
    refine ordB_W hd hr h3 h4 (y := y) (by rw [List.getElem?_map, hy0]; rfl) h2 hxa (ha y (List.mem_of_getElem? hy0)) (fun q => hx (ordOk_not hk (by rw [bad]; simpa using q))) fun q => next (by rw [bad]; simpa using q)
end
end Mine
end
section
namespace Mine
open PySem

section
variable {σ : AHeap} {X : XP}
theorem names_comp {k : Addr} (hn : T.fieldOk k "name" = true) {ps : List PI} (hl : ps.length ≤ 1000) (ha : AllAt k σ ps) (hs : ∀ x ∈ ps, PyData.strOk x.2.1 = true) {Q : QP (List AV)}
    (hq : Q ((((ps.map (·.2)).map (·.1)).filter nonEmpty).map AV.str) σ) :
    realLoops.comp (fun v σ Q X => kF v "name" σ (fun nm σ => kIs .NotEq nm (.str "") σ (fun σ => kF v "name" σ (fun nm σ => Q (some nm) σ) X) (fun σ => Q none σ) X) X) (.seq (.lst (ps.map (·.1)))) σ Q X := by
  rw [← filterMap_names] at hq
  refine comp_pure (gives_lst hl σ) (fun _ x hx Q hq => ?_) hq
  rw [kF_name hn (ha x hx), kIs_of (cmp_ne_str (hs x hx) strOk_empty)]
  unfold nonEmpty at hq
  induction e : decide (x.2.1 = ("" : Str)) using Bool.casesOn with
  | true => rw [e] at hq; exact hq
  | false =>
    rw [e] at hq
    show kF x.1 "name" σ _ X
    rw [kF_name hn (ha x hx)]; exact hq
theorem rests_comp {k : Addr} (hr : T.fieldOk k "is_rest" = true) {v : AV} {ps : List PI} (hv : SqV σ v (ps.map (·.1))) (ha : AllAt k σ ps) {Q : QP (List AV)} (hq : Q (ps.filterMap restOf) σ) :
    realLoops.comp (fun v σ Q X => kFT v "is_rest" σ (fun σ => Q (some v) σ) (fun σ => Q none σ) X) (.seq v) σ Q X := by
  refine comp_pure (stands_seq hv) (fun _ x hx Q hq => ?_) hq
  show kFT x.1 "is_rest" σ _ _ X
  rw [kFT_rest hr (ha x hx)]
  unfold restOf at hq
  induction e : x.2.2.rest using Bool.casesOn with
  | true => rw [e] at hq; exact hq
  | false => rw [e] at hq; exact hq
theorem filterMap_len {α β : Type} (g : α → Option β) (l : List α) : (l.filterMap g).length ≤ l.length := List.length_filterMap_le g l

theorem checked_W {n j : Nat} (hn : 4 ≤ n) {l : List (Str × AV)} {pv kv bv : AV} {ps ks : List PI} {V : List Var} {A K : List Arg} (e : σ[j]? = some (.inst 162 l)) (lp : l.lookup ("params" : Str) = some pv) (lk : l.lookup ("keywords" : Str) = some kv)
    (lb : l.lookup ("binders" : Str) = some bv) (sp : SqV σ pv (ps.map (·.1))) (sk : SqV σ kv (ks.map (·.1))) (sb : SqV σ bv (V.map Var.btup)) (hp : ps.map (·.2) = numL pn 0 A) (hk : ks.map (·.2) = numL pn A.length K)
    (ha : AllAt 120 σ (ps ++ ks)) (small : A.length + K.length ≤ 8) {Q : QP AV} (hq : chk A K V = true → Q (.obj j) σ) (hx : chk A K V = false → X σ) : CW n 202 [.obj j] σ Q X := by
  refine run_W (d := 2) (by exact ar_ge (by assumption) (by decide)) fu_202 ?_
  have hA : (ps.map (·.2)).map (·.2) = A := by rw [hp, numL_snd]
  have hK : (ks.map (·.2)).map (·.2) = K := by rw [hk, numL_snd]
  have lps : ps.length = A.length := by rw [← hA]; simp
  have lks : ks.length = K.length := by rw [← hK]; simp
  have hnames : ((ps ++ ks).map (·.2)).map (·.1) = namesL pn 0 (A ++ K) := by
    unfold namesL; rw [List.map_append, hp, hk, numL_append, Nat.zero_add]
  have hok : ∀ x ∈ ps ++ ks, PyData.strOk x.2.1 = true := fun x hx => by
    have : x.2 ∈ numL pn 0 (A ++ K) := by
      rw [numL_append, Nat.zero_add, ← hp, ← hk, ← List.map_append]; exact List.mem_map_of_mem hx
    obtain ⟨i, _, h2, h3, _⟩ := numL_mem this
    rw [h3]; exact strOk_pn (by simp at h2; omega) _
  rw [checked_sh, getF_at e f162p lp sp.top, getF_at e f162k lk sk.top, add_seq sp sk (by simp; omega), ← List.map_append, toSeq_seq (.lst (by simp; omega))]
  refine names_comp f120n (by simp; omega) ha hok ?_
  rw [hnames]
  have hv : V.length ≤ 1000 := by simpa using sb.le
  generalize hN : (namesL pn 0 (A ++ K)).filter nonEmpty = N
  have hNl : N.length ≤ 1000 := by
    have := List.length_filter_le nonEmpty (namesL pn 0 (A ++ K))
    rw [hN] at this
    unfold namesL at this; rw [List.length_map, numL_len] at this; simp at this; omega
  rw [getF_at e f162b lb sb.top, toSeq_seq sb]
  refine comp_pure (g := fun v : Var => some (.str v.nm)) (stands_seq sb) (fun _ v _ Q hq => hq) ?_
  rw [List.filterMap_eq_map' (f := fun v : Var => AV.str v.nm)]
  rw [show V.map (fun v : Var => AV.str v.nm) = (V.map Var.nm).map AV.str by rw [List.map_map]; rfl]
  have hchk : chk A K V = (!dup N && !dup (V.map Var.nm) && ordOk A && noRest K) := by unfold chk; rw [hN]
  refine loop_seq (as := [N, V.map Var.nm]) (gives_seq (t := fun ns : List Str => AV.lst (ns.map AV.str)) (by simp) σ) (fun pre => ∀ ns ∈ pre, dup ns = false) (fun pre ns post Q1 e1 hp1 hnx hr => ?_) (fun _ m => (nomatch m)) fun hp1 => ?_
  · have hns : ns ∈ [N, V.map Var.nm] := by rw [e1]; simp
    have hnl : ns.length ≤ 1000 := by
      rcases List.mem_cons.mp hns with rfl | h
      · exact hNl
      · rw [List.mem_singleton.mp h]; simpa using hv
    show W (toSeq (.lst (ns.map AV.str))) σ _ X
    rw [toSeq_seq (.lst (by simpa using hnl))]
    refine twice_comp hnl ?_
    rw [kIs_ne_nil (.lst (Nat.le_trans (filterMap_len _ _) hnl)), dup_filter]
    induction hd : dup ns using Bool.casesOn with
    | true =>
      refine hx ?_
      rw [hchk]
      rcases List.mem_cons.mp hns with rfl | h
      · rw [hd]; rfl
      · rw [List.mem_singleton.mp h] at hd; rw [hd]; cases dup N <;> rfl
    | false =>
      refine hnx fun ms m => ?_
      rcases List.mem_append.mp m with m | m
      · exact hp1 ms m
      · rw [List.mem_singleton.mp m]; exact hd
  have d1 : dup N = false := hp1 _ (by simp)
  have d2 : dup (V.map Var.nm) = false := hp1 _ (by simp)
  rw [d1, d2] at hchk
  show kF (.obj j) "params" σ _ X
  rw [getF_at e f162p lp sp.top]
  refine (kB_len (K := fun σ n => _) sp).mpr ?_
  refine ⟨sp.le, ?_⟩
  rw [List.length_map, lps]
  refine order_loop f120d f120r hA (by omega) (fun x hx => ha x (List.mem_append_left _ hx)) (fun k x hxk Q1 => ⟨_, _, _, pv, fun Q h => ?_, fun Q h => ?_, fun Q h => h, sp, fun h => h⟩) (fun ho => ?_) (fun ho => ?_)
  · rw [len_seq sp, List.length_map, lps]; exact h
  · rw [item_seq sp (x := x.1) (by rw [List.getElem?_map, hxk]; rfl)]; exact h
  · show kF (.obj j) "keywords" σ _ X
    rw [getF_at e f162k lk sk.top, toSeq_seq sk]
    refine rests_comp f120r sk (fun x hx => ha x (List.mem_append_right _ hx)) ?_
    rw [kIs_ne_nil (.lst (Nat.le_trans (filterMap_len _ _) (by omega))), rest_isEmpty _ _ hK]
    induction hnr : noRest K using Bool.casesOn with
    | true => exact hq (by rw [hchk, ho, hnr]; rfl)
    | false => exact hx (by rw [hchk, ho, hnr]; rfl)
  · exact hx (by rw [hchk, ho]; rfl)
end
end Mine
end
section
namespace Mine
open PySem

noncomputable def datB (n : Nat) (v : AV) : Bool := match toPD v with
  | some d => d.canLay0 && decide (d.depth ≤ n)
  | none => false
theorem dat_tree (a : Arg) : datB 10 a.tree = true := by
  obtain ⟨c, r, d⟩ := a
  cases c with
  | name n => cases n <;> cases r <;> cases d <;> kernel_rfl
  | kind n => cases n <;> cases r <;> cases d <;> kernel_rfl
  | _ => cases r <;> cases d <;> kernel_rfl
theorem dat_var (v : Var) : datB 10 v.tree = true := by
  rcases v with (s | s | ⟨s, ok⟩ | s)
  · cases s <;> kernel_rfl
  · cases s <;> kernel_rfl
  · cases s <;> cases ok <;> kernel_rfl
  · cases s <;> kernel_rfl
theorem datL {n : Nat} : ∀ {l : List AV}, (∀ v ∈ l, datB n v = true) → ∃ ds, toPDs l = some ds ∧ PyData.canLayAll0 ds = true ∧ PyData.depthAll ds ≤ n ∧ ds.length = l.length
  | [], _ => ⟨[], rfl, rfl, Nat.zero_le _, rfl⟩
  | v :: r, h => by
    obtain ⟨ds, h1, h2, h3, h4⟩ := datL fun x m => h x (List.mem_cons_of_mem _ m)
    have hv := h v List.mem_cons_self
    unfold datB at hv
    split at hv
    · rename_i d e
      obtain ⟨a, b⟩ := Bool.and_eq_true_iff.mp hv
      refine ⟨d :: ds, ?_, ?_, ?_, by simp [h4]⟩
      · show (match toPD v, toPDs r with | some d, some ds => some (d :: ds) | _, _ => none) = _
        rw [e, h1]
      · rw [PyData.canLayAll0, a, h2]; rfl
      · rw [PyData.depthAll]; have := of_decide_eq_true b; omega
    · exact (no_ft hv).elim
theorem datB_mono {n m : Nat} {v : AV} (h : datB n v = true) (l : n ≤ m) : datB m v = true := by
  unfold datB at *
  split at h
  · obtain ⟨a, b⟩ := Bool.and_eq_true_iff.mp h
    rw [a, decide_eq_true (Nat.le_trans (of_decide_eq_true b) l)]; rfl
  · exact (no_ft h).elim
theorem cmp_ne_tupnil {l : List AV} (h : ∀ v ∈ l, datB 20 v = true) : cmpM .NotEq (.tup l) (.tup []) = pure (.bool (!l.isEmpty)) := by
  obtain ⟨ds, h1, h2, h3, h4⟩ := datL h
  have e1 : toPD (.tup l) = some (.tuple ds) := by show (toPDs l).map PyData.tuple = _; rw [h1]; rfl
  show (eqM (.tup l) (.tup []) >>= fun t => pure (AV.bool (!t))) = _
  rw [eqM_of (p := .tuple ds) (q := .tuple []) e1 rfl (by unfold SeqAt.shaped; rw [PyData.canLay0, h2, PyData.depth, decide_eq_true (by exact ar_lt (by assumption) (by decide))]; rfl) rfl rfl]
  induction l using List.casesOn with
  | nil => induction ds using List.casesOn with
    | nil => rfl
    | cons d ds => cases h4
  | cons v l => induction ds using List.casesOn with
    | nil => cases h4
    | cons d ds => rfl

section
variable {σ : AHeap} {X : XP}
theorem isX_arg (a : Arg) {Q : QP AV} : isX a.tree "parameters" σ Q X = Q (.bool false) σ := by
  obtain ⟨c, r, d⟩ := a
  cases c with
  | name n => cases n <;> cases r <;> cases d <;> kernel_rfl
  | kind n => cases n <;> cases r <;> cases d <;> kernel_rfl
  | _ => cases r <;> cases d <;> kernel_rfl
theorem isX_par {l : List AV} {Q : QP AV} : isX (eX "parameters" l) "parameters" σ Q X = Q (.bool true) σ := by kernel_rfl
theorem is_expr_sh (L : KLoops) (kc : Nat → KCallee) (t : AV) (Q : QP AV) : kEnter T L (kcI L kc 2) (fiAt 7) [t, .str "parameters"] σ Q X = isX t "parameters" σ Q X := by kernel_rfl
theorem is_expr_W {n : Nat} (hn : 4 ≤ n) {t : AV} {Q : QP AV} (h : isX t "parameters" σ Q X) : CW n 75 [t, .str "parameters"] σ Q X := by
  refine run_W (d := 2) (by exact ar_ge (by assumption) (by decide)) fu_75 ?_
  rw [is_expr_sh]; exact h
theorem slice1 {x : AV} {l : List AV} (h : l.length < 1000) {Q : QP AV} : W (sliceM (.tup (x :: l)) (some (.int 1)) none) σ Q X = Q (.tup l) σ := by
  show W (if 1 ≤ (1 : Int) ∧ (1 : Int) ≤ ((x :: l).length : Int) ∧ (x :: l).length ≤ sizeCap then _ else _) σ Q X = _
  rw [if_pos ⟨by decide, by simp only [List.length_cons]; omega, by simp only [List.length_cons]; unfold sizeCap; omega⟩]; rfl

noncomputable def callP (A K : List Arg) : List AV := sX "f" :: ((match K with
  | [] => []
  | _ => [eX "parameters" (K.map Arg.tree)]) ++ A.map Arg.tree)
theorem keywords_of_W {n : Nat} (hn : 6 ≤ n) {A K : List Arg} (hA : A.length ≤ 8) (hK : K.length ≤ 8) {Q : QP AV} (hq : Q (.tup [.tup (K.map Arg.tree), .tup (A.map Arg.tree)]) σ) : CW n 103 [eX "call" (callP A K)] σ Q X := by
  refine run_W (d := 0) (by exact ar_ge (by assumption) (by decide)) fu_103 ?_
  rw [keywords_of_sh]
  have hd : ∀ v ∈ A.map Arg.tree, datB 20 v = true := fun v m => by
    obtain ⟨a, _, rfl⟩ := List.mem_map.mp m; exact datB_mono (dat_tree a) (by decide)
  have hdK : ∀ v ∈ K.map Arg.tree, datB 10 v = true := fun v m => by
    obtain ⟨a, _, rfl⟩ := List.mem_map.mp m; exact dat_tree a
  induction K using List.casesOn with
  | nil =>
    show W (sliceM (.tup (sX "f" :: A.map Arg.tree)) (some (.int 1)) none) σ _ X
    rw [slice1 (by simp; omega), kIs_of (cmp_ne_tupnil hd)]
    induction A using List.casesOn with
    | nil => exact hq
    | cons a r =>
      show W (itemM (.tup ((a :: r).map Arg.tree)) (.int ((0 : Nat) : Int))) σ _ X
      rw [item_tup (x := a.tree) (by simp; simp at hA; omega) rfl]
      refine is_expr_W (by exact ar_fu (by assumption) (by decide)) ?_
      rw [isX_arg]
      exact hq
  | cons k kr =>
    show W (sliceM (.tup (sX "f" :: (eX "parameters" ((k :: kr).map Arg.tree) :: A.map Arg.tree))) (some (.int 1)) none) σ _ X
    have hdp : datB 20 (eX "parameters" ((k :: kr).map Arg.tree)) = true := by
      obtain ⟨ds, h1, h2, h3, h4⟩ := datL (hdK)
      have e : toPD (eX "parameters" ((k :: kr).map Arg.tree)) = some (.tuple [.str "expr", .str "parameters", .tuple ds]) := by
        have e1 : toPD (.tup ((k :: kr).map Arg.tree)) = some (.tuple ds) := by show (toPDs _).map PyData.tuple = _; rw [h1]; rfl
        have e2 : toPDs [.str "expr", .str "parameters", .tup ((k :: kr).map Arg.tree)] = some [.str "expr", .str "parameters", .tuple ds] := by simp only [toPDs, toPD, h1]; rfl
        show (toPDs _).map PyData.tuple = _
        rw [e2]; rfl
      unfold datB
      rw [e]
      have c : (PyData.tuple [.str "expr", .str "parameters", .tuple ds]).canLay0 = (PyData.strOk "expr" && (PyData.strOk "parameters" && (PyData.canLayAll0 ds && true))) := by simp only [PyData.canLay0, PyData.canLayAll0]
      have d : (PyData.tuple [.str "expr", .str "parameters", .tuple ds]).depth = max 0 (max 0 (max (PyData.depthAll ds + 1) 0)) + 1 := by simp only [PyData.depth, PyData.depthAll]
      show ((PyData.tuple [.str "expr", .str "parameters", .tuple ds]).canLay0 && decide ((PyData.tuple [.str "expr", .str "parameters", .tuple ds]).depth ≤ 20)) = true
      rw [c, h2, d, decide_eq_true (by omega), strOk_ofString, strOk_ofString]; rfl
    rw [slice1 (by simp; omega), kIs_of (cmp_ne_tupnil (fun v m => by
      rcases List.mem_cons.mp m with rfl | m
      · exact hdp
      · exact hd v m))]
    show W (itemM (.tup (eX "parameters" ((k :: kr).map Arg.tree) :: A.map Arg.tree)) (.int ((0 : Nat) : Int))) σ _ X
    rw [item_tup (x := eX "parameters" ((k :: kr).map Arg.tree)) (by simp; omega) rfl]
    refine is_expr_W (by exact ar_fu (by assumption) (by decide)) ?_
    rw [isX_par]
    show W (itemM (.tup (eX "parameters" ((k :: kr).map Arg.tree) :: A.map Arg.tree)) (.int ((0 : Nat) : Int))) σ _ X
    rw [item_tup (x := eX "parameters" ((k :: kr).map Arg.tree)) (by simp; omega) rfl]
    show W (sliceM (.tup (eX "parameters" ((k :: kr).map Arg.tree) :: A.map Arg.tree)) (some (.int 1)) none) σ _ X
    rw [slice1 (by simp; omega)]
    exact hq
end
end Mine
end
section
namespace Mine
open PySem

noncomputable abbrev vgoods (V : List Var) : Bool := V.all Var.good
noncomputable def Has (v : AV) (c : Addr) (σ : AHeap) (x : Str) (n : Nat) : Prop := ∃ j l pv pl, v = .obj j ∧ σ[j]? = some (.inst c l) ∧ l.lookup x = some pv ∧ SqV σ pv pl ∧ pl.length = n
section
variable {σ : AHeap} {X : XP}
theorem binder_W {n : Nat} (hn : 4 ≤ n) {v : Var} {Q : QP AV} (hq : v.good = true → Q v.btup σ) (hx : v.good = false → X σ) : CW n 197 [v.tree] σ Q X := by
  refine run_W (d := 2) (by exact ar_ge (by assumption) (by decide)) fu_197 ?_
  rw [told_binder_sh]
  unfold Var.told
  split
  · rename_i h; exact hq h
  · rename_i h; exact hx h
theorem told_where_W {n b : Nat} (hn2 : 2 ≤ n) {V : List Var} (hV : V.length ≤ 4) (hb : σ[b]? = some nl) {K : AHeap → Prop} (hq : vgoods V = true → K (σ.set b (.list (V.map Var.btup)))) (hx : vgoods V = false → X σ) :
    toldWhere realLoops (cws n) (V.map Var.tree) (.obj b) σ K X := by
  unfold toldWhere
  rw [mk_ext hb]
  refine comp_inv (gives_seq (t := Var.tree) (by exact ar_le (by assumption) (by decide))) (fun pre acc σ' => σ' = σ ∧ vgoods pre = true ∧ acc = pre.map Var.btup) ?_ ⟨rfl, rfl, rfl⟩ ?_
  · rintro pre v post acc σ1 Q1 e ⟨rfl, g, rfl⟩ hn
    show CW _ 197 [v.tree] σ1 _ X
    refine binder_W (by exact ar_ad (by assumption) (by decide)) (fun hg => hn _ _ ⟨rfl, by simp only [vgoods, List.all_append, List.all_cons, List.all_nil, Bool.and_true]; rw [hg, Bool.and_true]; exact g, by simp⟩) fun hg => hx (by rw [e]; simp [vgoods, hg])
  · rintro acc σ' ⟨rfl, g, rfl⟩
    rw [ext_at hb (by simp; omega)]
    exact hq g
theorem lookup_put_ne {x y : Str} {v : AV} (h : y ≠ x) : ∀ l : List (Str × AV), (putF x v l).lookup y = l.lookup y
  | [] => by
    show (match y == x with | true => some v | false => none) = none
    rw [beq_false_of_ne h]
  | (z, u) :: r => by
    show (if z = x then (z, v) :: r else (z, u) :: putF x v r).lookup y = _
    split
    · rename_i e
      subst e
      rw [List.lookup_cons, List.lookup_cons, beq_false_of_ne h]
    · rw [List.lookup_cons, List.lookup_cons, lookup_put_ne h r]
theorem str_ne {a b : String} (h : a ≠ b) : Str.ofString a ≠ Str.ofString b := fun e => h (ofString_inj e)
noncomputable def toldOk (A K : List Arg) (V : List Var) : Bool := goods A && goods K && chk A K V
theorem W_isNot {body whole : AV} {jb : Nat} (hb : body = .obj jb) (e : σ[jb]? = some (.tup [.str "sym", .str "b"])) (hw : whole = body ∨ ∃ t, whole = .tup [.str "expr", .str "block", .tup t]) {Q : QP AV} (hq : ∀ t, Q (.bool t) σ) :
    W (cmpM .IsNot whole body) σ Q X := by
  subst hb
  rcases hw with rfl | ⟨t, rfl⟩
  · show W (isM (.obj jb) (.obj jb) >>= _) σ Q X
    have : isM (.obj jb) (.obj jb) = pure (.bool true) := if_pos rfl
    rw [this]
    exact hq false
  · have : isM (.tup [.str "expr", .str "block", .tup t]) (.obj jb) = (getObj jb >>= fun o => match o with
      | .tup l' => if ([AV.str "expr", .str "block", .tup t] : List AV).length = l'.length then failM else pure (.bool false)
      | _ => failM) := rfl
    show W (isM (.tup [.str "expr", .str "block", .tup t]) (.obj jb) >>= _) σ Q X
    rw [this, W_bind, W_bind, W_get e]
    exact hq true
theorem told_tail_W {n b jb : Nat} (hn5 : 5 ≤ n) {A K : List Arg} {V : List Var} (hA : A.length ≤ 5) (hK : K.length ≤ 3) (hV : V.length ≤ 4) (hb : σ[b]? = some (.list (V.map Var.btup))) (hj : σ[jb]? = some (.tup [.str "sym", .str "b"])) {Q : QP AV}
    (hq : toldOk A K V = true → ∀ v σ', Keep σ σ' → Has v 162 σ' "params" A.length → Has v 162 σ' "keywords" K.length → Q v σ') (hx : toldOk A K V = false → ∀ σ', Keep σ σ' → X σ') :
    toldTail realLoops (cws n) (callP A K) (.obj jb) (.obj b) σ Q X := by
  unfold toldTail
  show CW _ 103 [eX "call" (callP A K)] σ _ X
  refine keywords_of_W (by exact ar_ad (by assumption) (by decide)) (by exact ar_le (by assumption) (by decide)) (by exact ar_le (by assumption) (by decide)) ?_
  show CW _ 183 [.tup (A.map Arg.tree), .obj jb] σ _ X
  refine told_params_W (by exact ar_ad (by assumption) (by decide)) hA (fun gA σ1 ps whole k1 hps ha hp hw => ?_) (fun gA σ1 k1 => hx (by unfold toldOk; rw [gA]; rfl) _ k1)
  show W (toSeq (.tup (K.map Arg.tree))) σ1 _ X
  rw [toSeq_tup (by simp; omega)]
  refine comp_inv (gives_enum (t := Arg.tree) (by exact ar_le (by assumption) (by decide))) (fun pre acc σ' => goods pre = true ∧ Keep σ1 σ' ∧ ∃ ks : List PI, acc = ks.map (·.1) ∧ ks.map (·.2) = numL pn A.length pre ∧ AllAt 120 σ' ks) ?_ ⟨rfl, Keep.refl _, [], rfl, rfl, AllAt.nil⟩ ?_
  · rintro pre a post acc σ2 Q1 e ⟨g, k2, ks, rfl, hks, hka⟩ hn
    have hpl : pre.length ≤ 2 := by have := congrArg List.length e; simp at this; omega
    show kB (blF "len") [.tup (A.map Arg.tree)] σ2 _ X
    rw [len_tup (by simp; omega)]
    show W (binM .Add (.int ((A.map Arg.tree).length : Nat)) (.int (pre.length : Nat))) σ2 _ X
    rw [addI_W, List.length_map, show ((A.length : Nat) : Int) + ((pre.length : Nat) : Int) = ((A.length + pre.length : Nat) : Int) by omega]
    show CW _ 190 [a.tree, .int ((A.length + pre.length : Nat) : Int)] σ2 _ X
    refine told_param_W (by exact ar_ad (by assumption) (by decide)) (by omega) (fun hg => ?_) (fun hg => hx ?_ _ (k1.trans k2))
    · rw [show (0 : Int) = ((0 : Nat) : Int) from rfl, item_tup (x := .obj σ2.length) (by simp) rfl]
      have hp1 : PAt 120 (σ2 ++ [paramO 120 (.str (pn (A.length + pre.length) a)) a.core.kindV a.dft.val a.rest]) (.obj σ2.length, pn (A.length + pre.length) a, a) := ⟨_, _, rfl, isTop_kindV _, get_app _ _ _⟩
      refine hn _ _ ⟨by simp only [goods, List.all_append, List.all_cons, List.all_nil, Bool.and_true]; rw [hg, Bool.and_true]; exact g, k2.trans (Keep.app _ _), ks ++ [(.obj σ2.length, pn (A.length + pre.length) a, a)], by simp, ?_, (hka.keep (Keep.app _ _)).append hp1⟩
      rw [List.map_append, hks, numL_append]; rfl
    · unfold toldOk; rw [gA, e]; simp [goods, hg]
  rintro acc σ2 ⟨gK, k2, ks, rfl, hks, hka⟩
  show W (itemM (.tup (callP A K)) (.int ((0 : Nat) : Int))) σ2 _ X
  rw [item_tup (x := sX "f") (by cases K <;> simp [callP] <;> omega) rfl]
  show CW _ 162 _ σ2 _ X
  refine plain_W (by exact ar_ad (by assumption) (by decide)) (fun σ3 l k3 hl lp lk lb ll => ?_)
  have k13 := k2.trans k3
  have hp3 := k13 _ _ hp
  have hb3 := (k1.trans k13) _ _ hb
  have hj3 := (k1.trans k13) _ _ hj
  have lps : ps.length = A.length := by have := congrArg List.length hps; simpa [numL_len] using this
  have lks : ks.length = K.length := by have := congrArg List.length hks; simpa [numL_len] using this
  have sp : SqV σ3 (.obj σ.length) (ps.map (·.1)) := .obj hp3 (by simp; omega)
  have sk : SqV σ3 (.lst (ks.map (·.1))) (ks.map (·.1)) := .lst (by simp; omega)
  show CW _ 202 [.obj σ2.length] σ3 _ X
  refine checked_W (by exact ar_ad (by assumption) (by decide)) (V := V) (A := A) (K := K) hl lp lk lb sp sk (.obj hb3 (by simp; omega)) hps hks (fun x m => ?_) (by omega) (fun hc => ?_) (fun hc => hx (by unfold toldOk; rw [hc, Bool.and_false]) _ (k1.trans k13))
  · rcases List.mem_append.mp m with m | m
    · exact (ha x m).keep k13
    · exact (hka x m).keep k3
  refine W_isNot rfl hj3 hw fun t => ?_
  rw [setF_at hl f162h (by omega)]
  have kk : ∀ (i : Nat) (o : AObj), i ≠ σ2.length → σ3[i]? = some o → (σ3.set σ2.length (.inst 162 (putF "has_patterns" (.bool t) l)))[i]? = some o := fun i o hne e => get_set_ne (Ne.symm hne) e
  have hjl : σ2.length ≠ σ.length := by have := (k1.trans k2).len; have := get_lt (k2 _ _ hp); omega
  refine hq (by unfold toldOk; rw [gA, gK, hc]; rfl) _ _ ((k1.trans k13).set ((k1.trans k2).len) _) ?_ ?_
  · refine ⟨_, _, .obj σ.length, ps.map (·.1), rfl, get_set hl, ?_, .obj (kk _ _ (Ne.symm hjl) hp3) (by simp; omega), by simpa using lps⟩
    rw [lookup_put_ne (str_ne (by decide))]; exact lp
  · refine ⟨_, _, .lst (ks.map (·.1)), ks.map (·.1), rfl, get_set hl, ?_, .lst (by simp; omega), by simpa using lks⟩
    rw [lookup_put_ne (str_ne (by decide))]; exact lk

noncomputable def headT (A K : List Arg) (V : List Var) : AV := match V with
  | [] => eX "call" (callP A K)
  | _ => eX "where" (eX "call" (callP A K) :: V.map Var.tree)
theorem len2 {α : Type} {V : List α} (h : V.length ≤ 2) : V = [] ∨ (∃ v, V = [v]) ∨ ∃ v w, V = [v, w] := by
  rcases V with _ | ⟨v, _ | ⟨w, _ | ⟨u, r⟩⟩⟩
  · exact .inl rfl
  · exact .inr (.inl ⟨v, rfl⟩)
  · exact .inr (.inr ⟨v, w, rfl⟩)
  · exact absurd h (Nat.not_le.mpr (Nat.le_add_left 3 r.length))
theorem told_head {L : KLoops} {kc : Nat → KCallee} {A K : List Arg} {V : List Var} (hV : V.length ≤ 2) {body : AV} {Q : QP AV} (h0 : V = [] → toldTail L kc (callP A K) body (.obj σ.length) (σ ++ [nl]) Q X)
    (h1 : toldWhere L kc (V.map Var.tree) (.obj σ.length) (σ ++ [nl]) (fun σ' => toldTail L kc (callP A K) body (.obj σ.length) σ' Q X) X) : kEnter T L (kcI L kc 2) (fiAt 15) [headT A K V, body] σ Q X := by
  rcases len2 hV with rfl | ⟨v, rfl⟩ | ⟨v, w, rfl⟩
  · exact (told_function_sh0 L kc (callP A K) body σ Q X).mpr (h0 rfl)
  · exact (told_function_sh1 L kc (callP A K) v.tree body σ Q X).mpr h1
  · exact (told_function_sh2 L kc (callP A K) v.tree w.tree body σ Q X).mpr h1
theorem told_function_W {n jb : Nat} (hn : 8 ≤ n) {A K : List Arg} {V : List Var} (hA : A.length ≤ 5) (hK : K.length ≤ 3) (hV : V.length ≤ 2) (hj : σ[jb]? = some (.tup [.str "sym", .str "b"])) {Q : QP AV}
    (hq : (vgoods V && toldOk A K V) = true → ∀ v σ', Keep σ σ' → Has v 162 σ' "params" A.length → Has v 162 σ' "keywords" K.length → Q v σ') (hx : (vgoods V && toldOk A K V) = false → ∀ σ', Keep σ σ' → X σ') :
    CW n 171 [headT A K V, .obj jb] σ Q X := by
  refine run_W (d := 2) (by exact ar_ge (by assumption) (by decide)) fu_171 ?_
  have hb : (σ ++ [nl])[σ.length]? = some nl := get_app σ nl []
  have hk : Keep σ (σ ++ [nl]) := Keep.app _ _
  have tail : ∀ σ', Keep σ σ' → σ'[σ.length]? = some (.list (V.map Var.btup)) → vgoods V = true → toldTail realLoops (cws (n - 2 - 1)) (callP A K) (.obj jb) (.obj σ.length) σ' Q X := fun σ' k e g => by
    refine told_tail_W (by omega) hA hK (by exact ar_le (by assumption) (by decide)) e (k _ _ hj) (fun h v σ2 k2 => hq (by rw [g, h]; rfl) v σ2 (k.trans k2)) (fun h σ2 k2 => hx (by rw [h, Bool.and_false]) σ2 (k.trans k2))
  have wh : toldWhere realLoops (cws (n - 2 - 1)) (V.map Var.tree) (.obj σ.length) (σ ++ [nl]) (fun σ' => toldTail realLoops (cws (n - 2 - 1)) (callP A K) (.obj jb) (.obj σ.length) σ' Q X) X :=
    told_where_W (by omega) (by exact ar_le (by assumption) (by decide)) hb (fun g => tail _ (hk.set (Nat.le_refl _) _) (get_set hb) g) (fun g => hx (by rw [g]; rfl) _ hk)
  exact told_head hV (fun e => tail _ hk (by rw [e]; exact hb) (by rw [e]; rfl)) wh
end
end Mine
end
section
namespace Mine
open PySem

section
variable {σ : AHeap} {X : XP}
theorem Has.len {v : AV} {c : Addr} {x : Str} {n : Nat} (h : Has v c σ x n) (hf : T.fieldOk c x = true) {Q : QP AV} : kF v x σ (fun p σ => kB (blF "len") [p] σ Q X) X = Q (.int (n : Nat)) σ := by
  obtain ⟨j, l, pv, pl, rfl, e, hl, hs, rfl⟩ := h
  rw [getF_at e hf hl hs.top, len_seq hs]
theorem arrow_function_W {n : Nat} (hn : 8 ≤ n) {A : List Arg} (hA : A.length ≤ 5) {Q : QP AV} (hq : toldOk A [] [] = true → ∀ v σ', Keep σ σ' → Has v 162 σ' "params" A.length → Q v σ') (hx : toldOk A [] [] = false → ∀ σ', Keep σ σ' → X σ') :
    CW n 176 [eX "->" [eX "tuple" (A.map Arg.tree), sX "b"]] σ Q X := by
  refine run_W (d := 2) (by exact ar_ge (by assumption) (by decide)) fu_176 ?_
  rw [arrow_function_sh]
  show CW _ 183 [.tup (A.map Arg.tree), sX "b"] σ _ X
  refine told_params_W (by exact ar_fu (by assumption) (by decide)) hA (fun gA σ1 ps whole k1 hps ha hp hw => ?_) (fun gA σ1 k1 => hx (by unfold toldOk; rw [gA]; rfl) _ k1)
  show CW _ 162 _ σ1 _ X
  refine plain_W (by exact ar_fu (by assumption) (by decide)) (fun σ3 l k3 hl lp lk lb ll => ?_)
  have hp3 := k3 _ _ hp
  have lps : ps.length = A.length := by have := congrArg List.length hps; simpa [numL_len] using this
  have sp : SqV σ3 (.obj σ.length) (ps.map (·.1)) := .obj hp3 (by simp; omega)
  show CW _ 202 [.obj σ1.length] σ3 _ X
  refine checked_W (by exact ar_fu (by assumption) (by decide)) (V := []) (A := A) (K := []) (ks := []) hl lp lk lb sp (.lst (by simp)) (.lst (by simp)) hps rfl (fun x m => ?_) (by simp; omega) (fun hc => ?_) (fun hc => hx (by unfold toldOk; rw [hc, Bool.and_false]) _ (k1.trans k3))
  · exact (ha x (by simpa using m)).keep k3
  · exact hq (by unfold toldOk; rw [gA, hc]; rfl) _ _ (k1.trans k3) ⟨_, _, _, _, rfl, hl, lp, sp, by simpa using lps⟩

theorem l_plain_W {n : Nat} (hn : 9 ≤ n) {A K : List Arg} {V : List Var} (hA : A.length ≤ 5) (hK : K.length ≤ 3) (hV : V.length ≤ 2) {Q : QP AV}
    (hq : (vgoods V && toldOk A K V) = true → ∀ σ', Keep σ σ' → Q (.tup [.int (A.length : Nat), .int (K.length : Nat)]) σ') (hx : (vgoods V && toldOk A K V) = false → ∀ σ', Keep σ σ' → X σ') :
    CW n 436 [headT A K V] σ Q X := by
  refine run_W (d := 2) (by exact ar_ge (by assumption) (by decide)) fu_436 ?_
  rw [l_plain_sh]
  show CW _ 171 [headT A K V, .obj σ.length] (σ ++ [.tup [.str "sym", .str "b"]]) _ X
  have k0 : Keep σ (σ ++ [.tup [.str "sym", .str "b"]]) := Keep.app _ _
  refine told_function_W (by exact ar_fu (by assumption) (by decide)) hA hK hV (get_app σ _ []) (fun h v σ' k h1 h2 => ?_) (fun h σ' k => hx h _ (k0.trans k))
  show kF v "params" σ' _ X
  rw [h1.len f162p]
  show kF v "keywords" σ' _ X
  rw [h2.len f162k]
  exact hq h _ (k0.trans k)
theorem l_plain_arrow_W {n : Nat} (hn : 9 ≤ n) {A : List Arg} (hA : A.length ≤ 5) {Q : QP AV} (hq : toldOk A [] [] = true → ∀ σ', Keep σ σ' → Q (.tup [.int (A.length : Nat), .int 0]) σ') (hx : toldOk A [] [] = false → ∀ σ', Keep σ σ' → X σ') :
    CW n 450 [eX "->" [eX "tuple" (A.map Arg.tree), sX "b"]] σ Q X := by
  refine run_W (d := 2) (by exact ar_ge (by assumption) (by decide)) fu_450 ?_
  rw [l_plain_arrow_sh]
  show CW _ 176 [eX "->" [eX "tuple" (A.map Arg.tree), sX "b"]] σ _ X
  refine arrow_function_W (by exact ar_fu (by assumption) (by decide)) hA (fun h v σ' k h1 => ?_) (fun h σ' k => hx h _ k)
  show kF v "params" σ' _ X
  rw [h1.len f162p]
  exact hq h _ k
theorem counts_W {n : Nat} (hn : 4 ≤ n) {d : Addr} (hd : d = 436 ∨ d = 443 ∨ d = 450 ∨ d = 457) {t : AV} {Q : QP AV} (h : CW (n - 1) d [t] σ Q (fun σ => Q .none σ)) : CW n 429 [.top (.ref d), t] σ Q X := by
  rw [show n - 1 = n - 2 - 1 + 2 by omega] at h
  refine run_W (d := 2) (by exact ar_ge (by assumption) (by decide)) fu_429 ?_
  rcases hd with rfl | rfl | rfl | rfl
  · rw [counts_sh1]; exact h
  · rw [counts_sh2]; exact h
  · rw [counts_sh3]; exact h
  · rw [counts_sh4]; exact h
end

/-! the lowerer's side -/
noncomputable def ln (i : Nat) (a : Arg) : Str := match nonEmpty a.core.nm with
  | true => a.core.nm
  | false => hash i
theorem nonEmpty_nm (c : Core) : nonEmpty c.nm = (match c with | .name _ => true | .kind _ => true | _ => false) := by
  cases c with
  | name n => cases n <;> kernel_rfl
  | kind n => cases n <;> kernel_rfl
  | _ => kernel_rfl
theorem strOk_ln {i : Nat} (h : i ≤ 8) (a : Arg) : PyData.strOk (ln i a) = true := by
  unfold ln; split
  · exact strOk_nm _
  · exact strOk_hash h
structure HS (σ0 σ : AHeap) (h ia ik ip : Nat) (as ks : List PI) : Prop where
  keep : ∀ (i : Nat) (o : AObj), i ≠ ia → i ≠ ik → i ≠ ip → σ0[i]? = some o → σ[i]? = some o
  la : σ[ia]? = some (.list (as.map (·.1)))
  lk : σ[ik]? = some (.list (ks.map (·.1)))
  lp : ∃ l, σ[ip]? = some (.list l) ∧ l.length ≤ as.length + ks.length
  all : AllAt 258 σ (as ++ ks)
  hd : ∃ l, σ[h]? = some (.inst 279 l) ∧ l.lookup ("arguments" : Str) = some (.obj ia) ∧ l.lookup ("keywords" : Str) = some (.obj ik) ∧ l.lookup ("patterns" : Str) = some (.obj ip) ∧ l.length ≤ 10
  d1 : ia ≠ ik
  d2 : ia ≠ ip
  d3 : ik ≠ ip
theorem f279a : T.fieldOk 279 "arguments" = true := by kernel_rfl
theorem f279k : T.fieldOk 279 "keywords" = true := by kernel_rfl
theorem f279p : T.fieldOk 279 "patterns" = true := by kernel_rfl
theorem f279c : T.fieldOk 279 "callee" = true := by kernel_rfl
theorem f279v : T.fieldOk 279 "variables" = true := by kernel_rfl
theorem f279r : T.fieldOk 279 "result" = true := by kernel_rfl
section
variable {σ σ0 : AHeap} {X : XP} {h ia ik ip : Nat} {as ks : List PI}
theorem HS.args (S : HS σ0 σ h ia ik ip as ks) {Q : QP AV} : kF (.obj h) "arguments" σ Q X = Q (.obj ia) σ := by
  obtain ⟨l, e, l1, l2, l3, _⟩ := S.hd; exact getF_at e f279a l1 rfl
theorem HS.kws (S : HS σ0 σ h ia ik ip as ks) {Q : QP AV} : kF (.obj h) "keywords" σ Q X = Q (.obj ik) σ := by
  obtain ⟨l, e, l1, l2, l3, _⟩ := S.hd; exact getF_at e f279k l2 rfl
theorem HS.pats (S : HS σ0 σ h ia ik ip as ks) {Q : QP AV} : kF (.obj h) "patterns" σ Q X = Q (.obj ip) σ := by
  obtain ⟨l, e, l1, l2, l3, _⟩ := S.hd; exact getF_at e f279p l3 rfl
theorem HS.app (S : HS σ0 σ h ia ik ip as ks) (o : AHeap) : HS σ0 (σ ++ o) h ia ik ip as ks := by
  obtain ⟨l, e, ll⟩ := S.lp
  obtain ⟨l', e', ll'⟩ := S.hd
  exact ⟨fun i p h1 h2 h3 e => Keep.app _ _ _ _ (S.keep i p h1 h2 h3 e), Keep.app _ _ _ _ S.la, Keep.app _ _ _ _ S.lk, ⟨l, Keep.app _ _ _ _ e, ll⟩, S.all.keep (Keep.app _ _), ⟨l', Keep.app _ _ _ _ e', ll'⟩, S.d1, S.d2, S.d3⟩
theorem new_name_W {n : Nat} (hn : 4 ≤ n) (S : HS σ0 σ h ia ik ip as ks) (hl : as.length + ks.length ≤ 8) {Q : QP AV} (hq : Q (.str (hash (ks.length + as.length))) σ) : CW n 304 [.obj h] σ Q X := by
  refine run_W (d := 2) (by exact ar_ge (by assumption) (by decide)) fu_304 ?_
  have s1 : SqV σ (.obj ia) (as.map (·.1)) := .obj S.la (by simp; omega)
  have s2 : SqV σ (.obj ik) (ks.map (·.1)) := .obj S.lk (by simp; omega)
  rw [new_name_sh, S.args, len_seq s1, S.kws, len_seq s2, addI_W, addI_W, List.length_map, List.length_map, show ((as.length : Nat) : Int) + ((ks.length : Nat) : Int) + 1 = ((ks.length + as.length : Nat) : Int) + 1 by omega]
  show kHash (((ks.length + as.length : Nat) : Int) + 1) σ Q X
  rw [kHash_W (by omega)]; exact hq
end
end Mine
end
section
namespace Mine
open PySem

structure RdP (σ σ' : AHeap) (ip : Nat) (many : Nat) (j : Nat) (nm : Str) (d : AV) (r : Bool) : Prop where
  keep : ∀ (i : Nat) (o : AObj), i ≠ ip → σ[i]? = some o → σ'[i]? = some o
  new : σ.length ≤ j
  pats : ∃ l, σ'[ip]? = some (.list l) ∧ l.length ≤ many + 1
  at_ : ∃ kd, isTop kd = false ∧ σ'[j]? = some (paramO 258 (.str nm) kd d r)
theorem put_rest (a b c d e : AV) : putF "is_rest" e [(("name" : Str), a), ("kind", b), ("default", c), ("is_rest", d)] = [(("name" : Str), a), ("kind", b), ("default", c), ("is_rest", e)] := by kernel_rfl
theorem put_dft (a b c d e : AV) : putF "default" e [(("name" : Str), a), ("kind", b), ("default", c), ("is_rest", d)] = [(("name" : Str), a), ("kind", b), ("default", e), ("is_rest", d)] := by kernel_rfl
section
variable {σ σ0 : AHeap} {X : XP} {h ia ik ip : Nat} {as ks : List PI}
theorem HS.rd (S : HS σ0 σ h ia ik ip as ks) {σ' : AHeap} {j : Nat} {nm : Str} {d : AV} {r : Bool} (R : RdP σ σ' ip (as.length + ks.length) j nm d r) : j ≠ ip ∧ j ≠ ia ∧ j ≠ ik ∧ j ≠ h := by
  have := R.new
  obtain ⟨l, e, _⟩ := S.lp
  obtain ⟨l', e', _⟩ := S.hd
  have a := get_lt e
  have b := get_lt e'
  have c := get_lt S.la
  have d := get_lt S.lk
  exact ⟨by omega, by omega, by omega, by omega⟩
theorem rd_new (S : HS σ0 σ h ia ik ip as ks) {nm : Str} {kd : AV} (hk : isTop kd = false) : RdP σ (σ ++ [paramO 258 (.str nm) kd .none false]) ip (as.length + ks.length) σ.length nm .none false := by
  obtain ⟨l, e, hl⟩ := S.lp
  exact ⟨fun i o _ e => Keep.app _ _ _ _ e, Nat.le_refl _, ⟨l, Keep.app _ _ _ _ e, by omega⟩, kd, hk, get_app _ _ _⟩
theorem RdP.again {σ' : AHeap} {many j : Nat} {nm : Str} {d : AV} {r : Bool} (hip : ip < σ.length) (R : RdP σ σ' ip many j nm d r) {kd : AV} (hk : isTop kd = false) : RdP σ (σ' ++ [paramO 258 (.str nm) kd .none false]) ip many σ'.length nm .none false := by
  obtain ⟨l, e, hl⟩ := R.pats
  obtain ⟨kd', _, e'⟩ := R.at_
  exact ⟨fun i o hi e => Keep.app _ _ _ _ (R.keep i o hi e), by have := R.new; have := get_lt e'; omega, ⟨l, Keep.app _ _ _ _ e, hl⟩, kd, hk, get_app _ _ _⟩
theorem RdP.name {σ' : AHeap} {many j : Nat} {nm : Str} {d : AV} {r : Bool} (R : RdP σ σ' ip many j nm d r) {Q : QP AV} : kF (.obj j) "name" σ' Q X = Q (.str nm) σ' := by
  obtain ⟨kd, _, e⟩ := R.at_
  exact getF_at e f258n (lk_n ..) rfl
theorem RdP.setRest {σ' : AHeap} {many j : Nat} {nm : Str} {d : AV} {r : Bool} (hip : ip < σ.length) (R : RdP σ σ' ip many j nm d r) {Q : AHeap → Prop} (hq : ∀ σ2, RdP σ σ2 ip many j nm d true → Q σ2) : kS (.obj j) "is_rest" (.bool true) σ' Q X := by
  obtain ⟨kd, hk, e⟩ := R.at_
  obtain ⟨l, el, hl⟩ := R.pats
  have := R.new
  rw [setF_at e f258r (by simp), put_rest]
  exact hq _ ⟨fun i o hi e => get_set_ne (by have := get_lt e; omega) (R.keep i o hi e), R.new, ⟨l, get_set_ne (by omega) el, hl⟩, kd, hk, get_set e⟩
theorem RdP.setDft {σ' : AHeap} {many j : Nat} {nm : Str} {d : AV} {r : Bool} (hip : ip < σ.length) (R : RdP σ σ' ip many j nm d r) {Q : AHeap → Prop} (hq : ∀ σ2, RdP σ σ2 ip many j nm (iX 1) r → Q σ2) : kS (.obj j) "default" (iX 1) σ' Q X := by
  obtain ⟨kd, hk, e⟩ := R.at_
  obtain ⟨l, el, hl⟩ := R.pats
  have := R.new
  rw [setF_at e f258d (by simp), put_dft]
  exact hq _ ⟨fun i o hi e => get_set_ne (by have := get_lt e; omega) (R.keep i o hi e), R.new, ⟨l, get_set_ne (by omega) el, hl⟩, kd, hk, get_set e⟩
theorem HS.ipl (S : HS σ0 σ h ia ik ip as ks) : ip < σ.length := by obtain ⟨l, e, _⟩ := S.lp; exact get_lt e

noncomputable abbrev cnm (i : Nat) (c : Core) : Str := ln i ⟨c, false, .no⟩
theorem cnm_name (i : Nat) (n : Nm) : cnm i (.name n) = n.str := by unfold cnm ln; rw [nonEmpty_nm]; rfl
theorem cnm_kind (i : Nat) (n : Nm) : cnm i (.kind n) = n.str := by unfold cnm ln; rw [nonEmpty_nm]; rfl
theorem cnm_else {i : Nat} {c : Core} (h : c = .alone ∨ c = .low ∨ c = .row ∨ c = .both) : cnm i c = hash i := by
  unfold cnm ln; rw [nonEmpty_nm]; rcases h with rfl | rfl | rfl | rfl <;> rfl
theorem read_flat_W {n : Nat} (hn : 5 ≤ n) (S : HS σ0 σ h ia ik ip as ks) (hl : as.length + ks.length ≤ 8) {c : Core} (hc : c ≠ .both ∧ c ≠ .odd ∧ ∀ n, c ≠ .kind n) {Q : QP AV}
    (hq : c.good = true → ∀ σ' j, RdP σ σ' ip (as.length + ks.length) j (cnm (ks.length + as.length) c) .none false → Q (.obj j) σ') (hx : c.good = false → X σ) :
    CW n 297 [c.tree, .obj h] σ Q X := by
  refine run_W (d := 2) (by exact ar_ge (by assumption) (by decide)) fu_297 ?_
  rw [read_core]
  cases c with
  | name m => exact hq rfl _ _ (by rw [cnm_name]; exact rd_new S rfl)
  | kind m => exact absurd rfl (hc.2.2 m)
  | alone =>
    show CW _ 304 [.obj h] σ _ X
    refine new_name_W (by exact ar_fu (by assumption) (by decide)) S hl ?_
    exact hq rfl _ _ (by rw [cnm_else (.inl rfl)]; exact rd_new S rfl)
  | low =>
    show CW _ 304 [.obj h] σ _ X
    refine new_name_W (by exact ar_fu (by assumption) (by decide)) S hl ?_
    exact hq rfl _ _ (by rw [cnm_else (.inr (.inl rfl))]; exact rd_new S rfl)
  | row =>
    show CW _ 304 [.obj h] σ _ X
    refine new_name_W (by exact ar_fu (by assumption) (by decide)) S hl ?_
    have S' := S.app [paramO 258 (.str (hash (ks.length + as.length))) .none .none false]
    have R := rd_new S (nm := hash (ks.length + as.length)) (kd := .none) rfl
    show kF (.obj h) "patterns" (σ ++ [paramO 258 (.str (hash (ks.length + as.length))) .none .none false]) _ X
    rw [S'.pats]
    obtain ⟨l, e, hll⟩ := S'.lp
    show kM (.obj ip) "append" _ _ X
    rw [mk_app e, R.name, app_at e (by omega)]
    refine hq rfl _ σ.length ?_
    rw [cnm_else (.inr (.inr (.inl rfl)))]
    obtain ⟨kd, hk, ej⟩ := R.at_
    exact ⟨fun i o hi e => get_set_ne (Ne.symm hi) (R.keep i o hi e), Nat.le_refl _, ⟨_, get_set e, by simp; omega⟩, kd, hk, get_set_ne (by have := S.ipl; omega) ej⟩
  | both => exact absurd rfl hc.1
  | number => exact hx rfl
  | odd => exact absurd rfl hc.2.1
theorem read_core_W {n : Nat} (hn : 6 ≤ n) (S : HS σ0 σ h ia ik ip as ks) (hl : as.length + ks.length ≤ 8) {c : Core} {Q : QP AV}
    (hq : c.good = true → ∀ σ' j, RdP σ σ' ip (as.length + ks.length) j (cnm (ks.length + as.length) c) .none false → Q (.obj j) σ') (hx : c.good = false → X σ) :
    CW n 297 [c.tree, .obj h] σ Q X := by
  by_cases hc : c ≠ .both ∧ c ≠ .odd ∧ ∀ n, c ≠ .kind n
  · exact read_flat_W (by exact ar_ge (by assumption) (by decide)) S hl hc hq hx
  refine run_W (d := 2) (by exact ar_ge (by assumption) (by decide)) fu_297 ?_
  rw [read_core]
  cases c with
  | kind m =>
    show CW _ 297 [(Core.name m).tree, .obj h] σ _ X
    refine read_flat_W (by exact ar_fu (by assumption) (by decide)) S hl ⟨by simp, by simp, by simp⟩ (fun _ σ' j R => ?_) (fun q => by exact (no_tf q).elim)
    show kF (.obj j) "name" σ' _ X
    rw [R.name]
    refine hq rfl _ _ ?_
    rw [cnm_kind]; rw [cnm_name] at R ⊢
    exact R.again S.ipl rfl
  | both =>
    show CW _ 297 [(Core.row).tree, .obj h] σ _ X
    refine read_flat_W (by exact ar_fu (by assumption) (by decide)) S hl ⟨by simp, by simp, by simp⟩ (fun _ σ' j R => ?_) (fun q => by exact (no_tf q).elim)
    show kF (.obj j) "name" σ' _ X
    rw [R.name]
    refine hq rfl _ _ ?_
    rw [cnm_else (.inr (.inr (.inr rfl)))]; rw [cnm_else (.inr (.inr (.inl rfl)))] at R ⊢
    exact R.again S.ipl rfl
  | odd =>
    show CW _ 297 [(Core.number).tree, .obj h] σ _ X
    exact read_flat_W (by exact ar_fu (by assumption) (by decide)) S hl ⟨by simp, by simp, by simp⟩ (fun q => by exact (no_ft q).elim) (fun _ => hx rfl)
  | _ => exact absurd ⟨by simp, by simp, by simp⟩ hc
theorem read_rest_W {n : Nat} (hn : 7 ≤ n) (S : HS σ0 σ h ia ik ip as ks) (hl : as.length + ks.length ≤ 8) {c : Core} {r : Bool} {Q : QP AV}
    (hq : c.good = true → ∀ σ' j, RdP σ σ' ip (as.length + ks.length) j (cnm (ks.length + as.length) c) .none r → Q (.obj j) σ') (hx : c.good = false → X σ) :
    CW n 297 [restT r c.tree, .obj h] σ Q X := by
  induction r using Bool.casesOn with
  | false => exact read_core_W (by exact ar_ge (by assumption) (by decide)) S hl hq hx
  | true =>
    refine run_W (d := 2) (by exact ar_ge (by assumption) (by decide)) fu_297 ?_
    show kEnter _ _ _ _ [eX "..." [c.tree], .obj h] σ Q X
    rw [read_rest]
    show CW _ 297 [c.tree, .obj h] σ _ X
    refine read_core_W (by exact ar_fu (by assumption) (by decide)) S hl (fun g σ' j R => ?_) hx
    exact R.setRest S.ipl fun σ2 R2 => hq g σ2 j R2
theorem read_argument_W {n : Nat} (hn : 8 ≤ n) (S : HS σ0 σ h ia ik ip as ks) (hl : as.length + ks.length ≤ 8) {a : Arg} {Q : QP AV}
    (hq : a.core.good = true → ∀ σ' j, RdP σ σ' ip (as.length + ks.length) j (ln (ks.length + as.length) a) a.dft.val a.rest → Q (.obj j) σ') (hx : a.core.good = false → X σ) :
    CW n 297 [a.tree, .obj h] σ Q X := by
  obtain ⟨c, r, d⟩ := a
  cases d with
  | no => exact read_rest_W (by exact ar_ge (by assumption) (by decide)) S hl hq hx
  | kw =>
    refine run_W (d := 2) (by exact ar_ge (by assumption) (by decide)) fu_297 ?_
    show kEnter _ _ _ _ [eX "kw" [restT r c.tree, iX 1], .obj h] σ Q X
    rw [read_kw]
    show CW _ 297 [restT r c.tree, .obj h] σ _ X
    refine read_rest_W (by exact ar_fu (by assumption) (by decide)) S hl (fun g σ' j R => ?_) hx
    exact R.setDft S.ipl fun σ2 R2 => hq g σ2 j R2
  | eq =>
    refine run_W (d := 2) (by exact ar_ge (by assumption) (by decide)) fu_297 ?_
    show kEnter _ _ _ _ [eX "=" [restT r c.tree, iX 1], .obj h] σ Q X
    rw [read_eq]
    show CW _ 297 [restT r c.tree, .obj h] σ _ X
    refine read_rest_W (by exact ar_fu (by assumption) (by decide)) S hl (fun g σ' j R => ?_) hx
    exact R.setDft S.ipl fun σ2 R2 => hq g σ2 j R2
end
end Mine
end
section
namespace Mine
open PySem
theorem W_item_3_2 {v0 v1 v2 : AV} {σ : AHeap} {Q : AV → AHeap → Prop} {X : AHeap → Prop} : W (itemM (.tup [v0, v1, v2]) (.int 2)) σ Q X = Q v2 σ := rfl

theorem kTruth_b {b : Bool} {K : Bool → Prop} : kTruth (.bool b) K = K b := rfl
theorem kIf_t {p q : Prop} : kIf true p q = p := rfl
theorem kIf_f {p q : Prop} : kIf false p q = q := rfl
section
variable {σ σ0 : AHeap} {X : XP} {h ia ik ip : Nat} {as ks : List PI}
theorem HS.keepR (S : HS σ0 σ h ia ik ip as ks) {σ' : AHeap} {j : Nat} {nm : Str} {d : AV} {r : Bool} (R : RdP σ σ' ip (as.length + ks.length) j nm d r) :
    (∀ (i : Nat) (o : AObj), i ≠ ia → i ≠ ik → i ≠ ip → σ0[i]? = some o → σ'[i]? = some o) ∧ σ'[ia]? = some (.list (as.map (·.1))) ∧ σ'[ik]? = some (.list (ks.map (·.1))) ∧ AllAt 258 σ' (as ++ ks) ∧
      (∃ l, σ'[h]? = some (.inst 279 l) ∧ l.lookup ("arguments" : Str) = some (.obj ia) ∧ l.lookup ("keywords" : Str) = some (.obj ik) ∧ l.lookup ("patterns" : Str) = some (.obj ip) ∧ l.length ≤ 10) := by
  obtain ⟨lp, elp, _⟩ := S.lp
  refine ⟨fun i o h1 h2 h3 e => R.keep i o h3 (S.keep i o h1 h2 h3 e), R.keep _ _ S.d2 S.la, R.keep _ _ S.d3 S.lk, fun x m => ?_, ?_⟩
  · obtain ⟨j, kd, a, b, c⟩ := S.all x m
    exact ⟨j, kd, a, b, R.keep _ _ (fun q => by subst q; rw [elp] at c; cases c) c⟩
  · obtain ⟨l, e, r⟩ := S.hd
    exact ⟨l, R.keep _ _ (fun q => by subst q; rw [elp] at e; cases e) e, r⟩
theorem HS.addArg (S : HS σ0 σ h ia ik ip as ks) {σ' : AHeap} {j : Nat} {nm : Str} {a : Arg} (R : RdP σ σ' ip (as.length + ks.length) j nm a.dft.val a.rest) :
    HS σ0 (σ'.set ia (.list (as.map (·.1) ++ [.obj j]))) h ia ik ip (as ++ [(.obj j, nm, a)]) ks := by
  obtain ⟨k1, k2, k3, k4, l, e, r⟩ := S.keepR R
  obtain ⟨lp, elp, hlp⟩ := R.pats
  obtain ⟨kd, hk, ej⟩ := R.at_
  have hp : PAt 258 σ' (.obj j, nm, a) := ⟨j, kd, rfl, hk, ej⟩
  refine ⟨fun i o h1 h2 h3 e => get_set_ne (Ne.symm h1) (k1 i o h1 h2 h3 e), by rw [get_set k2]; simp, get_set_ne S.d1 k3, ⟨lp, get_set_ne S.d2 elp, by simp; omega⟩, ?_, ⟨l, get_set_ne (fun q => by subst q; rw [k2] at e; cases e) e, r⟩, S.d1, S.d2, S.d3⟩
  refine AllAt.set (fun x m => ?_) k2 rfl
  rcases List.mem_append.mp m with m | m
  · rcases List.mem_append.mp m with m | m
    · exact k4 x (List.mem_append_left _ m)
    · rw [List.mem_singleton.mp m]; exact hp
  · exact k4 x (List.mem_append_right _ m)
theorem HS.addKw (S : HS σ0 σ h ia ik ip as ks) {σ' : AHeap} {j : Nat} {nm : Str} {a : Arg} (R : RdP σ σ' ip (as.length + ks.length) j nm a.dft.val a.rest) :
    HS σ0 (σ'.set ik (.list (ks.map (·.1) ++ [.obj j]))) h ia ik ip as (ks ++ [(.obj j, nm, a)]) := by
  obtain ⟨k1, k2, k3, k4, l, e, r⟩ := S.keepR R
  obtain ⟨lp, elp, hlp⟩ := R.pats
  obtain ⟨kd, hk, ej⟩ := R.at_
  have hp : PAt 258 σ' (.obj j, nm, a) := ⟨j, kd, rfl, hk, ej⟩
  refine ⟨fun i o h1 h2 h3 e => get_set_ne (Ne.symm h2) (k1 i o h1 h2 h3 e), get_set_ne (Ne.symm S.d1) k2, by rw [get_set k3]; simp, ⟨lp, get_set_ne S.d3 elp, by simp; omega⟩, ?_, ⟨l, get_set_ne (fun q => by subst q; rw [k3] at e; cases e) e, r⟩, S.d1, S.d2, S.d3⟩
  refine AllAt.set (fun x m => ?_) k3 rfl
  rcases List.mem_append.mp m with m | m
  · exact k4 x (List.mem_append_left _ m)
  · rcases List.mem_append.mp m with m | m
    · exact k4 x (List.mem_append_right _ m)
    · rw [List.mem_singleton.mp m]; exact hp

noncomputable def fillP (A K : List Arg) : List AV := (match K with
  | [] => []
  | _ => [eX "parameters" (K.map Arg.tree)]) ++ A.map Arg.tree
theorem fill_arg {n : Nat} (hn : 8 ≤ n + 2) (S : HS σ0 σ h ia ik ip as ks) (hl : as.length + ks.length ≤ 8) {a : Arg} {Q : QP (Option AV)} (hq : a.core.good = true → ∀ σ' j, HS σ0 σ' h ia ik ip (as ++ [(.obj j, ln (ks.length + as.length) a, a)]) ks → Q none σ')
    (hx : a.core.good = false → X σ) :
    kF (.obj h) "arguments" σ (fun o σ => kM o "append" σ (fun m σ => cws n 2 297 [a.tree, .obj h] σ (fun a σ => kMethM (kcI realLoops (cws n) 2) m o [a] σ (fun _ σ => Q none σ) X) X) X) X := by
  rw [S.args, mk_app S.la]
  show CW _ 297 [a.tree, .obj h] σ _ X
  refine read_argument_W (by exact ar_ge (by assumption) (by decide)) S hl (fun g σ' j R => ?_) hx
  rw [app_at (S.keepR R).2.1 (by simp; omega)]
  exact hq g _ j (S.addArg R)
theorem fill_kw {n : Nat} (hn : 8 ≤ n + 2) (S : HS σ0 σ h ia ik ip as ks) (hl : as.length + ks.length ≤ 8) {a : Arg} {Q : QP (Option AV)} (hq : a.core.good = true → ∀ σ' j, HS σ0 σ' h ia ik ip as (ks ++ [(.obj j, ln (ks.length + as.length) a, a)]) → Q none σ')
    (hx : a.core.good = false → X σ) :
    kF (.obj h) "keywords" σ (fun o σ => kM o "append" σ (fun m σ => cws n 2 297 [a.tree, .obj h] σ (fun a σ => kMethM (kcI realLoops (cws n) 2) m o [a] σ (fun _ σ => Q none σ) X) X) X) X := by
  rw [S.kws, mk_app S.lk]
  show CW _ 297 [a.tree, .obj h] σ _ X
  refine read_argument_W (by exact ar_ge (by assumption) (by decide)) S hl (fun g σ' j R => ?_) hx
  rw [app_at (S.keepR R).2.2.1 (by simp; omega)]
  exact hq g _ j (S.addKw R)
inductive FT where
  | par
  | arg (a : Arg)
noncomputable def parF (K : List Arg) : List FT := match K with
  | [] => []
  | _ => [FT.par]
noncomputable def FT.tree (K : List Arg) : FT → AV
  | .par => eX "parameters" (K.map Arg.tree)
  | .arg a => a.tree
theorem fillP_eq (A K : List Arg) : fillP A K = (parF K ++ A.map FT.arg).map (FT.tree K) := by
  unfold fillP
  rw [List.map_append, List.map_map]
  congr 1
  cases K <;> rfl
theorem parF_len (K : List Arg) : (parF K).length ≤ 1 := by cases K <;> simp [parF]
inductive FillInv (σ0 : AHeap) (h ia ik ip : Nat) (A K : List Arg) (pre : List FT) (σ' : AHeap) : Prop
  | mk (as ks : List PI) (pa : List Arg) (S : HS σ0 σ' h ia ik ip as ks) (hpa : ∃ post, A = pa ++ post) (g : goods pa = true) (has : as.map (·.2) = numL ln K.length pa)
    (hpre : (pre = [] ∧ pa = [] ∧ ks = []) ∨ (pre = parF K ++ pa.map FT.arg ∧ goods K = true ∧ ks.map (·.2) = numL ln 0 K)) : FillInv σ0 h ia ik ip A K pre σ'
inductive FillKw (σ0 : AHeap) (h ia ik ip : Nat) (pk : List Arg) (σ' : AHeap) : Prop
  | mk (ks : List PI) (S : HS σ0 σ' h ia ik ip [] ks) (g : goods pk = true) (hks : ks.map (·.2) = numL ln 0 pk) : FillKw σ0 h ia ik ip pk σ'
theorem fill_head_W {n : Nat} (hn : 9 ≤ n) {A K : List Arg} (hA : A.length ≤ 5) (hK : K.length ≤ 3) (S : HS σ0 σ h ia ik ip [] []) {Q : QP AV}
    (hq : (goods A && goods K) = true → ∀ σ' as ks, HS σ0 σ' h ia ik ip as ks → as.map (·.2) = numL ln K.length A → ks.map (·.2) = numL ln 0 K → Q .none σ')
    (hx : (goods A && goods K) = false → ∀ σ' as ks, HS σ0 σ' h ia ik ip as ks → X σ') : CW n 311 [.obj h, .tup (fillP A K)] σ Q X := by
  refine run_W (d := 2) (by exact ar_ge (by assumption) (by decide)) fu_311 ?_
  rw [fill_head_sh]
  have hpl := parF_len K
  rw [fillP_eq, toSeq_tup (by simp; omega)]
  refine loop_inv (gives_seq (t := FT.tree K) (as := parF K ++ A.map FT.arg) (by simp; omega)) (FillInv σ0 h ia ik ip A K) ?_ ⟨[], [], [], S, ⟨A, rfl⟩, rfl, rfl, .inl ⟨rfl, rfl, rfl⟩⟩ ?_
  · rintro pre x post σ1 Q1 e ⟨as, ks, pa, S1, ⟨pq, hpa⟩, g, has, hpre⟩ hnx hr
    have lpa : as.length = pa.length := by have := congrArg List.length has; simpa [numL_len] using this
    have lA : pa.length ≤ 5 := by have := congrArg List.length hpa; simp at this; omega
    cases x with
    | par =>
      have hp0 : pre = [] ∧ ∃ k kr, K = k :: kr := by
        have nopar : ∀ (pre : List FT), A.map FT.arg = pre ++ FT.par :: post → False := fun pre e => by
          have : FT.par ∈ A.map FT.arg := by rw [e]; simp
          obtain ⟨a, _, q⟩ := List.mem_map.mp this
          cases q
        induction K using List.casesOn with
        | nil => exact (nopar _ e).elim
        | cons k kr =>
          refine ⟨?_, k, kr, rfl⟩
          induction pre using List.casesOn with
          | nil => rfl
          | cons y pre =>
            injection e with e1 e2
            exact (nopar _ e2).elim
      obtain ⟨hp0, k, kr, hKe⟩ := hp0
      have hst : pa = [] ∧ ks = [] := by
        rcases hpre with ⟨_, a, b⟩ | ⟨q, _⟩
        · exact ⟨a, b⟩
        · rw [hp0, hKe] at q; simp [parF] at q
      obtain ⟨rfl, rfl⟩ := hst
      obtain rfl : as = [] := by simpa using lpa
      show isX (eX "parameters" (K.map Arg.tree)) "parameters" σ1 _ X
      rw [isX_par, kTruth_b, kIf_t, show FT.tree K FT.par = .tup [.str "expr", .str "parameters", .tup (K.map Arg.tree)] from rfl, W_item_3_2, toSeq_tup (by simp; omega)]
      refine loop_inv (gives_seq (t := Arg.tree) (by exact ar_le (by assumption) (by decide))) (FillKw σ0 h ia ik ip) ?_ ⟨[], S1, rfl, rfl⟩ ?_
      · rintro pk a pk' σ2 Q2 ek ⟨ks, S2, gk, hks⟩ hn2 hr2
        have lks : ks.length = pk.length := by have := congrArg List.length hks; simpa [numL_len] using this
        have lpk : pk.length ≤ 3 := by have := congrArg List.length ek; simp at this; omega
        refine fill_kw (n := n - 2 - 1) (by exact ar_fu (by assumption) (by decide)) S2 (by simp; omega) (fun ga σ' j S3 => ?_) (fun ga => hx (by rw [ek]; simp [goods, ga]) _ _ _ S2)
        refine hn2 _ ⟨_, S3, by simp only [goods, List.all_append, List.all_cons, List.all_nil, Bool.and_true]; rw [ga, Bool.and_true]; exact gk, ?_⟩
        rw [List.map_append, hks, numL_append, Nat.zero_add]
        simp [numL, lks]
      · rintro σ2 ⟨ks, S2, gk, hks⟩
        exact hnx _ ⟨[], ks, [], S2, ⟨A, rfl⟩, rfl, rfl, .inr ⟨by rw [hp0, hKe]; rfl, gk, hks⟩⟩
    | arg a =>
      show isX a.tree "parameters" σ1 _ X
      rw [isX_arg]
      have key : pre = parF K ++ pa.map FT.arg ∧ goods K = true ∧ ks.map (·.2) = numL ln 0 K ∧ ∃ post', A = pa ++ a :: post' := by
        rcases hpre with ⟨p1, p2, p3⟩ | ⟨p1, p2, p3⟩
        · subst p1 p2 p3
          induction K using List.casesOn with
          | nil =>
            refine ⟨rfl, rfl, rfl, ?_⟩
            induction A using List.casesOn with
            | nil => cases e
            | cons b r => injection e with e1 e2; injection e1 with e1; subst e1; exact ⟨r, rfl⟩
          | cons k kr => injection e with e1 e2; cases e1
        · refine ⟨p1, p2, p3, ?_⟩
          rw [p1, hpa, List.map_append, List.append_assoc] at e
          have e := List.append_cancel_left e
          have e := List.append_cancel_left e
          induction pq using List.casesOn with
          | nil => cases e
          | cons b r => injection e with e1 e2; injection e1 with e1; subst e1; exact ⟨r, hpa⟩
      obtain ⟨q1, q2, q3, post', q4⟩ := key
      have lks : ks.length = K.length := by have := congrArg List.length q3; simpa [numL_len] using this
      refine fill_arg (n := n - 2 - 1) (by exact ar_fu (by assumption) (by decide)) S1 (by omega) (fun ga σ' j S2 => ?_) (fun ga => hx (by rw [q4]; simp [goods, ga]) _ _ _ S1)
      refine hnx _ ⟨_, ks, pa ++ [a], S2, ⟨post', by rw [q4]; simp⟩, by simp only [goods, List.all_append, List.all_cons, List.all_nil, Bool.and_true]; rw [ga, Bool.and_true]; exact g, ?_, .inr ⟨by rw [q1]; simp, q2, q3⟩⟩
      rw [List.map_append, has, numL_append, lpa, lks]; rfl
  · rintro σ1 ⟨as, ks, pa, S1, ⟨pq, hpa⟩, g, has, hpre⟩
    have key : pa = A ∧ goods K = true ∧ ks.map (·.2) = numL ln 0 K := by
      rcases hpre with ⟨p1, p2, p3⟩ | ⟨p1, p2, p3⟩
      · subst p2 p3
        induction K using List.casesOn with
        | nil => induction A using List.casesOn with
          | nil => exact ⟨rfl, rfl, rfl⟩
          | cons a r => cases p1
        | cons k kr => cases p1
      · have e := List.append_cancel_left p1
        refine ⟨?_, p2, p3⟩
        have : A.length = pa.length := by have := congrArg List.length e; simpa using this
        have hl := congrArg List.length hpa
        simp at hl
        have : pq = [] := List.eq_nil_of_length_eq_zero (by omega)
        rw [hpa, this, List.append_nil]
    obtain ⟨rfl, g2, hks⟩ := key
    exact hq (by rw [g, g2]; rfl) _ _ _ S1 has hks
end
end Mine
end
section
namespace Mine
open PySem

theorem set_app (σ : AHeap) (o p : AObj) (r : AHeap) : (σ ++ o :: r).set σ.length p = σ ++ p :: r := by
  rw [List.set_append_right _ _ (Nat.le_refl _), Nat.sub_self]; rfl
theorem app_mid (σ : AHeap) (a : AObj) (r s : AHeap) : σ ++ a :: r ++ s = σ ++ a :: (r ++ s) := by simp
theorem kS_mid {σ : AHeap} {X : XP} {c : Addr} {l : List (Str × AV)} {r : AHeap} {x : Str} {v : AV} {Q : AHeap → Prop} (hf : T.fieldOk c x = true) (hl : l.length < 1000) :
    kS (.obj σ.length) x v (σ ++ .inst c l :: r) Q X = Q (σ ++ .inst c (putF x v l) :: r) := by
  rw [setF_at (get_app σ _ r) hf hl, set_app]
noncomputable abbrev hd6 (n : Nat) (c : AV) : List (Str × AV) := [("callee", c), ("arguments", .obj (n + 1)), ("keywords", .obj (n + 2)), ("result", .none), ("variables", .lst []), ("patterns", .obj (n + 3))]
theorem put_len (x : Str) (v : AV) : ∀ l : List (Str × AV), (putF x v l).length ≤ l.length + 1
  | [] => by simp [putF]
  | (y, u) :: r => by
    unfold putF; split
    · simp
    · have := put_len x v r; simp; omega
section
variable {σ : AHeap} {X : XP}
theorem head_W {n : Nat} (hn : 2 ≤ n) {c : AV} {Q : QP AV} (hq : ∀ σ', Keep σ σ' → HS σ σ' σ.length (σ.length + 1) (σ.length + 2) (σ.length + 3) [] [] → σ'[σ.length]? = some (.inst 279 (hd6 σ.length c)) → Q (.obj σ.length) σ') :
    CW n 279 [c] σ Q X := by
  obtain ⟨n, rfl⟩ : ∃ k, n = k + 2 := ⟨n - 2, by omega⟩
  refine cls_W (n := n) (kc := cw n) fu_279 in_279 fu_276 (cw_snd _) ?_
  rw [head_sh, kS_mid f279c (by simp)]
  rw [app_mid σ, kS_mid f279a (by exact of_decide_eq_true (by kernel_rfl)), app_mid σ, kS_mid f279k (by exact of_decide_eq_true (by kernel_rfl)), kS_mid f279r (by exact of_decide_eq_true (by kernel_rfl)), kS_mid f279v (by exact of_decide_eq_true (by kernel_rfl)),
    app_mid σ, kS_mid f279p (by exact of_decide_eq_true (by kernel_rfl))]
  have l1 : (σ ++ [AObj.inst 279 (putF "callee" c [])]).length = σ.length + 1 := by simp
  have l2 : ∀ o : AObj, (σ ++ o :: ([] ++ [nl])).length = σ.length + 2 := by simp
  have l3 : ∀ o : AObj, (σ ++ o :: ([] ++ [nl] ++ [nl])).length = σ.length + 3 := by simp
  rw [l1, l2, l3]
  have e6 : putF "patterns" (.obj (σ.length + 3)) (putF "variables" (.lst []) (putF "result" .none (putF "keywords" (.obj (σ.length + 2)) (putF "arguments" (.obj (σ.length + 1)) (putF "callee" c []))))) = hd6 σ.length c := by kernel_rfl
  rw [e6]
  have k : Keep σ (σ ++ .inst 279 (hd6 σ.length c) :: ([] ++ [nl] ++ [nl] ++ [nl])) := Keep.app _ _
  refine ⟨rfl, hq _ k ⟨fun i o _ _ _ e => k i o e, by simp, by simp, ⟨[], by simp, by simp⟩, AllAt.nil, ⟨_, get_app _ _ _, by kernel_rfl, by kernel_rfl, by kernel_rfl, by simp⟩, by omega, by omega, by omega⟩ (get_app _ _ _)⟩

variable {σ0 : AHeap} {h ia ik ip : Nat} {as ks : List PI}
theorem HS.setH (S : HS σ0 σ h ia ik ip as ks) (hs : σ0.length ≤ h ∨ ∀ o, σ0[h]? ≠ some o) {l : List (Str × AV)} (e : σ[h]? = some (.inst 279 l)) (hl : l.length ≤ 9) {x : Str} {v : AV} (n1 : ("arguments" : Str) ≠ x) (n2 : ("keywords" : Str) ≠ x) (n3 : ("patterns" : Str) ≠ x) :
    HS σ0 (σ.set h (.inst 279 (putF x v l))) h ia ik ip as ks := by
  obtain ⟨l', e', a1, a2, a3, a4⟩ := S.hd
  rw [e] at e'; cases e'
  obtain ⟨lp, elp, hlp⟩ := S.lp
  have nia : h ≠ ia := fun q => by have := S.la; subst q; rw [e] at this; cases this
  have nik : h ≠ ik := fun q => by have := S.lk; subst q; rw [e] at this; cases this
  have nip : h ≠ ip := fun q => by subst q; rw [e] at elp; cases elp
  refine ⟨fun i o h1 h2 h3 ei => get_set_ne (fun q => ?_) (S.keep i o h1 h2 h3 ei), get_set_ne nia S.la, get_set_ne nik S.lk, ⟨lp, get_set_ne nip elp, hlp⟩, fun y m => ?_, ⟨_, get_set e, ?_, ?_, ?_, ?_⟩, S.d1, S.d2, S.d3⟩
  · subst q
    rcases hs with hs | hs
    · have := get_lt ei; omega
    · exact hs o ei
  · obtain ⟨j, kd, a, b, c⟩ := S.all y m
    refine ⟨j, kd, a, b, get_set_ne (fun q => ?_) c⟩
    subst q
    rw [e] at c
    injection c with c
    injection c with c1 c2
    exact absurd c1 (by decide)
  · rw [lookup_put_ne n1]; exact a1
  · rw [lookup_put_ne n2]; exact a2
  · rw [lookup_put_ne n3]; exact a3
  · have := put_len x v l; omega

noncomputable def lchk (A K : List Arg) : Bool := decide (namesL ln K.length A ++ namesL ln 0 K).Nodup && ordOk A && noRest K
theorem toPDs_str : ∀ ns : List Str, toPDs (ns.map AV.str) = some (ns.map PyData.str)
  | [] => rfl
  | x :: r => by show (match some (PyData.str x), toPDs (r.map AV.str) with | some d, some ds => some (d :: ds) | _, _ => none) = _; rw [toPDs_str r]; rfl
theorem canLay_str : ∀ {ns : List Str}, (∀ s ∈ ns, PyData.strOk s = true) → PyData.canLayAll0 (ns.map PyData.str) = true
  | [], _ => rfl
  | x :: r, h => by
    rw [List.map_cons, PyData.canLayAll0, PyData.canLay0, h x List.mem_cons_self, canLay_str fun s m => h s (List.mem_cons_of_mem _ m)]; rfl
theorem any_eqv (s : Str) : ∀ ns : List Str, ((ns.map PyData.str).any fun y => PyData.eqv y (.str s)) = decide (s ∈ ns)
  | [] => rfl
  | x :: r => by
    rw [List.map_cons, List.any_cons, any_eqv s r, show PyData.eqv (.str x) (.str s) = (x == s) from rfl, str_beq']
    rw [← Bool.decide_or]
    congr 1
    exact propext ⟨fun h => List.mem_cons.mpr (h.imp Eq.symm id), fun h => (List.mem_cons.mp h).imp Eq.symm id⟩
theorem cmp_in {s : Str} {ns : List Str} (hs : PyData.strOk s = true) (hn : ∀ s ∈ ns, PyData.strOk s = true) : cmpM .In (.str s) (.lst (ns.map AV.str)) = pure (.bool (decide (s ∈ ns))) := by
  have : inM (.str s) (.lst (ns.map AV.str)) = (match toPD (.str s), toPDs (ns.map AV.str) with
    | some d, some xs => if SeqAt.shaped d && PyData.canLayAll0 xs then pure (xs.any fun y => PyData.eqv y d) else failM
    | _, _ => failM) := rfl
  show (inM (.str s) (.lst (ns.map AV.str)) >>= fun t => pure (AV.bool t)) = _
  rw [this, toPDs_str, show toPD (.str s) = some (.str s) from rfl]
  dsimp only
  rw [if_pos (by rw [sh_str hs, canLay_str hn]; rfl), any_eqv]; rfl
theorem nodup_take : ∀ (N : List Str), (∀ k (h : k < N.length), N[k] ∉ N.take k) → N.Nodup := by
  intro N h
  rw [List.nodup_iff_pairwise_ne, List.pairwise_iff_getElem]
  intro i j hi hj hij e
  refine h j hj ?_
  rw [← e]
  exact List.mem_take_iff_getElem.mpr ⟨i, by omega, rfl⟩
theorem not_nodup_take {N : List Str} {k : Nat} (h : k < N.length) (m : N[k] ∈ N.take k) : ¬ N.Nodup := by
  obtain ⟨i, hi, e⟩ := List.mem_take_iff_getElem.mp m
  intro hN
  rw [List.nodup_iff_pairwise_ne, List.pairwise_iff_getElem] at hN
  exact hN i k (by omega) h (by omega) e
theorem len_ln {i : Nat} (hi : i ≤ 8) (a : Arg) : (ln i a).length ≤ 100 := by
  unfold ln
  split
  · obtain ⟨c, r, d⟩ := a
    cases c with
    | name n => cases n <;> exact of_decide_eq_true (by kernel_rfl)
    | kind n => cases n <;> exact of_decide_eq_true (by kernel_rfl)
    | _ => exact of_decide_eq_true (by kernel_rfl)
  · rcases upTo8 hi with rfl | rfl | rfl | rfl | rfl | rfl | rfl | rfl | rfl <;> exact of_decide_eq_true (by kernel_rfl)
end
end Mine
end
section
namespace Mine
open PySem

section
variable {σ σ0 : AHeap} {X : XP} {h ia ik ip : Nat} {as ks : List PI}
theorem check_head_W {n : Nat} (hn : 4 ≤ n) {A K : List Arg} (hA : A.length ≤ 5) (hK : K.length ≤ 3) (S : HS σ0 σ h ia ik ip as ks) (has : as.map (·.2) = numL ln K.length A) (hks : ks.map (·.2) = numL ln 0 K) {Q : QP AV}
    (hq : lchk A K = true → Q .none σ) (hx : lchk A K = false → X σ) : CW n 316 [.obj h] σ Q X := by
  refine run_W (d := 2) (by exact ar_ge (by assumption) (by decide)) fu_316 ?_
  have hAA : (as.map (·.2)).map (·.2) = A := by rw [has, numL_snd]
  have hKK : (ks.map (·.2)).map (·.2) = K := by rw [hks, numL_snd]
  have las : as.length = A.length := by rw [← hAA]; simp
  have lks : ks.length = K.length := by rw [← hKK]; simp
  have s1 : SqV σ (.obj ia) (as.map (·.1)) := .obj S.la (by simp; omega)
  have s2 : SqV σ (.obj ik) (ks.map (·.1)) := .obj S.lk (by simp; omega)
  have hnames : ((as ++ ks).map (·.2)).map (·.1) = namesL ln K.length A ++ namesL ln 0 K := by
    unfold namesL; rw [List.map_append, List.map_append, has, hks]
  generalize hN : namesL ln K.length A ++ namesL ln 0 K = N at hnames
  have lN : N.length = A.length + K.length := by rw [← hnames]; simp; omega
  have mN : ∀ s ∈ N, ∃ i a, i ≤ 8 ∧ s = ln i a := fun s m => by
    rw [← hN] at m
    rcases List.mem_append.mp m with m | m
    · obtain ⟨x, hx, rfl⟩ := List.mem_map.mp m
      obtain ⟨i, _, h2, h3, _⟩ := numL_mem hx
      exact ⟨i, x.2, by omega, h3⟩
    · obtain ⟨x, hx, rfl⟩ := List.mem_map.mp m
      obtain ⟨i, _, h2, h3, _⟩ := numL_mem hx
      exact ⟨i, x.2, by omega, h3⟩
  have okN : ∀ s ∈ N, PyData.strOk s = true := fun s m => by obtain ⟨i, a, hi, rfl⟩ := mN s m; exact strOk_ln hi a
  have hchk : lchk A K = (decide N.Nodup && ordOk A && noRest K) := by unfold lchk; rw [hN]
  rw [check_head_sh, S.args, S.kws, add_seq s1 s2 (by simp; omega), ← List.map_append, toSeq_seq (.lst (by simp; omega))]
  refine comp_pure (g := fun x : PI => some (AV.str x.2.1)) (gives_lst (t := fun x : PI => x.1) (as := as ++ ks) (by simp; omega) σ) (fun _ x hx Q hq => ?_) ?_
  · show kF x.1 "name" σ _ X
    rw [kF_name f258n (S.all x hx)]; exact hq
  have e1 : (as ++ ks).filterMap (fun x : PI => some (AV.str x.2.1)) = N.map AV.str := by
    rw [← hnames, List.filterMap_eq_map' (f := fun x : PI => AV.str x.2.1), List.map_map, List.map_map]; rfl
  rw [e1]
  have sN : SqV σ (.lst (N.map AV.str)) (N.map AV.str) := .lst (by simp; omega)
  refine (kB_len (K := fun σ n => _) sN).mpr ?_
  refine ⟨sN.le, ?_⟩
  rw [List.length_map]
  refine loop_seq (gives_range (n := N.length) (by omega) σ) (fun pre => ∀ k ∈ pre, ∀ (hk : k < N.length), N[k] ∉ N.take k) (fun pre k post Q1 e hp hnx hr => ?_) (fun _ m => (nomatch m)) fun hp => ?_
  · obtain ⟨rfl, hk⟩ := range_split e
    have ek : (N.map AV.str)[pre.length]? = some (.str N[pre.length]) := by rw [List.getElem?_map, List.getElem?_eq_getElem hk]; rfl
    show W (itemM (.lst (N.map AV.str)) (.int (pre.length : Nat))) σ _ X
    rw [item_seq sN ek]
    have sl : ∀ Q : QP AV, W (sliceM (.lst (N.map AV.str)) none (some (.int (pre.length : Nat)))) σ Q X = Q (.lst ((N.take pre.length).map AV.str)) σ := fun Q => by
      show W (if 0 ≤ ((pre.length : Nat) : Int) ∧ ((pre.length : Nat) : Int) ≤ ((N.map AV.str).length : Int) ∧ (N.map AV.str).length ≤ sizeCap then pure (AV.lst ((N.map AV.str).take ((pre.length : Nat) : Int).toNat)) else failM) σ Q X = _
      rw [if_pos ⟨by omega, by simp; omega, by simp; unfold sizeCap; omega⟩, Int.toNat_natCast, List.map_take]; rfl
    rw [sl, kIs_of (cmp_in (okN _ (List.getElem_mem hk)) (fun s m => okN s (List.mem_of_mem_take m)))]
    by_cases hm : N[pre.length] ∈ N.take pre.length
    · rw [decide_eq_true hm, kIf_t, item_seq sN ek]
      have hx' : X σ := hx (by rw [hchk, decide_eq_false (not_nodup_take hk hm)]; rfl)
      have : (Str.ofString "an argument is told twice: ").length + (N[pre.length]).length ≤ sizeCap := by
        obtain ⟨i, a, hi, e⟩ := mN _ (List.getElem_mem hk)
        rw [e]
        have h1 := len_ln hi a
        have h2 : (Str.ofString "an argument is told twice: ").length ≤ 100 := of_decide_eq_true (by kernel_rfl)
        unfold sizeCap; omega
      show W (if (Str.ofString "an argument is told twice: ").length + (N[pre.length]).length ≤ sizeCap then pure (AV.str (Str.ofString "an argument is told twice: " ++ N[pre.length])) else failM) σ _ X
      rw [if_pos this]; exact hx'
    · rw [decide_eq_false hm]
      refine hnx fun k m => ?_
      rcases List.mem_append.mp m with m | m
      · exact hp k m
      · rw [List.mem_singleton.mp m]; exact fun _ => hm
  have nd : N.Nodup := nodup_take N fun k hk => hp k (List.mem_range.mpr hk) hk
  rw [decide_eq_true nd] at hchk
  show kF (.obj h) "arguments" σ _ X
  rw [S.args]
  refine (kB_len (K := fun σ n => _) s1).mpr ?_
  refine ⟨s1.le, ?_⟩
  rw [List.length_map, las]
  refine order_loop f258d f258r hAA (by exact ar_le (by assumption) (by decide)) (fun x hx => S.all x (List.mem_append_left _ hx)) (fun k x hxk Q1 => ⟨(fun σ Q X => kF (.obj h) "arguments" σ (fun as σ => kB (blF "len") [as] σ Q X) X), (fun σ Q X => kF (.obj h) "arguments" σ Q X), (fun σ Q X => Q x.1 σ), .obj ia, fun Q h' => ?_, fun Q h' => h', fun Q h' => ?_, s1, fun h' => ?_⟩) (fun ho => ?_) (fun ho => ?_)
  · show kF (.obj h) "arguments" σ _ X
    rw [S.args, len_seq s1, List.length_map, las]; exact h'
  · show kF (.obj h) "arguments" σ _ X
    rw [S.args]; exact h'
  · show kF (.obj h) "arguments" σ _ X
    rw [S.args, item_seq s1 (x := x.1) (by rw [List.getElem?_map, hxk]; rfl)]
    exact h'
  · show kF (.obj h) "keywords" σ _ X
    rw [S.kws, toSeq_seq s2]
    refine rests_comp f258r s2 (fun x hx => S.all x (List.mem_append_right _ hx)) ?_
    rw [kIs_ne_nil (.lst (Nat.le_trans (filterMap_len _ _) (by exact ar_eq (by assumption) (by assumption) (by decide)))), rest_isEmpty _ _ hKK]
    induction hnr : noRest K using Bool.casesOn with
    | true => exact hq (by rw [hchk, ho, hnr]; rfl)
    | false => exact hx (by rw [hchk, ho, hnr]; rfl)
  · exact hx (by rw [hchk, ho]; rfl)

theorem lookup_put_self (x : Str) (v : AV) : ∀ l : List (Str × AV), (putF x v l).lookup x = some v
  | [] => by
    show (match x == x with | true => some v | false => none) = _
    rw [beq_self_eq_true]
  | (y, u) :: r => by
    show (if y = x then (y, v) :: r else (y, u) :: putF x v r).lookup x = _
    split
    · rename_i q; subst q; rw [List.lookup_cons, beq_self_eq_true]
    · rename_i q; rw [List.lookup_cons, beq_false_of_ne (Ne.symm q)]; exact lookup_put_self x v r
noncomputable def lowOk (A K : List Arg) : Bool := goods A && goods K && lchk A K
theorem head_end_W {n : Nat} (hn : 4 ≤ n + 2) {A K : List Arg} (hA : A.length ≤ 5) (hK : K.length ≤ 3) (S : HS σ0 σ h ia ik ip as ks) (has : as.map (·.2) = numL ln K.length A) (hks : ks.map (·.2) = numL ln 0 K) (hh : σ0.length ≤ h) (hia : σ0.length ≤ ia) (hik : σ0.length ≤ ik) (hip : σ0.length ≤ ip)
    {l : List (Str × AV)} (e : σ[h]? = some (.inst 279 l)) (hl : l.length ≤ 7) {vars : AV} {Q : QP AV}
    (hq : lchk A K = true → ∀ σ', Keep σ0 σ' → Has (.obj h) 279 σ' "arguments" A.length → Has (.obj h) 279 σ' "keywords" K.length → (∃ l, σ'[h]? = some (.inst 279 l) ∧ l.lookup ("variables" : Str) = some vars) → Q (.obj h) σ')
    (hx : lchk A K = false → ∀ σ', Keep σ0 σ' → X σ') : headEnd (cws n) (.obj h) vars σ Q X := by
  unfold headEnd
  have las : as.length = A.length := by have := congrArg List.length has; simpa [numL_len] using this
  have lks : ks.length = K.length := by have := congrArg List.length hks; simpa [numL_len] using this
  rw [setF_at e f279v (by exact ar_lt (by assumption) (by decide))]
  have S1 := S.setH (v := vars) (x := "variables") (.inl hh) e (by exact ar_le (by assumption) (by decide)) (str_ne (by decide)) (str_ne (by decide)) (str_ne (by decide))
  have e1 := get_set (o := .inst 279 (putF "variables" vars l)) e
  have hl1 := put_len "variables" vars l
  generalize σ.set h (.inst 279 (putF "variables" vars l)) = σ1 at *
  show kS (.obj h) "result" .none σ1 _ X
  rw [setF_at e1 f279r (by omega)]
  have S2 := S1.setH (v := .none) (x := "result") (.inl hh) e1 (by omega) (str_ne (by decide)) (str_ne (by decide)) (str_ne (by decide))
  have e2 := get_set (o := .inst 279 (putF "result" .none (putF "variables" vars l))) e1
  have lv : (putF "result" .none (putF "variables" vars l)).lookup ("variables" : Str) = some vars := by
    rw [lookup_put_ne (str_ne (by decide))]
    exact lookup_put_self _ _ _
  generalize σ1.set h (.inst 279 (putF "result" .none (putF "variables" vars l))) = σ2 at *
  have k2 : Keep σ0 σ2 := fun i o ei => S2.keep i o (by have := get_lt ei; omega) (by have := get_lt ei; omega) (by have := get_lt ei; omega) ei
  show CW _ 316 [.obj h] σ2 _ X
  refine check_head_W (by exact ar_ge (by assumption) (by decide)) hA hK S2 has hks (fun hc => ?_) (fun hc => hx hc _ k2)
  obtain ⟨l', e', a1, a2, _⟩ := S2.hd
  exact hq hc _ k2 ⟨_, _, _, _, rfl, e', a1, .obj S2.la (by simp; omega), by simpa using las⟩ ⟨_, _, _, _, rfl, e', a2, .obj S2.lk (by simp; omega), by simpa using lks⟩ ⟨_, e2, lv⟩
end
section
variable {σ : AHeap} {X : XP}
theorem fill_then {n : Nat} (hn : 9 ≤ n + 2) {A K : List Arg} (hA : A.length ≤ 5) (hK : K.length ≤ 3) {σ1 : AHeap} {c vars : AV} (k1 : Keep σ σ1) (S : HS σ σ1 σ.length (σ.length + 1) (σ.length + 2) (σ.length + 3) [] []) (e : σ1[σ.length]? = some (.inst 279 (hd6 σ.length c))) {Q : QP AV}
    (hq : lowOk A K = true → ∀ h σ', Keep σ σ' → Has (.obj h) 279 σ' "arguments" A.length → Has (.obj h) 279 σ' "keywords" K.length → (∃ l, σ'[h]? = some (.inst 279 l) ∧ l.lookup ("variables" : Str) = some vars) → Q (.obj h) σ')
    (hx : lowOk A K = false → ∀ σ', Keep σ σ' → X σ') :
    CW (n + 2) 311 [.obj σ.length, .tup (fillP A K)] σ1 (fun _ σ' => headEnd (cws n) (.obj σ.length) vars σ' Q X) X := by
  have hkeep : ∀ {σ' : AHeap} {as ks : List PI}, HS σ σ' σ.length (σ.length + 1) (σ.length + 2) (σ.length + 3) as ks → Keep σ σ' := fun S i o ei => S.keep i o (by have := get_lt ei; omega) (by have := get_lt ei; omega) (by have := get_lt ei; omega) ei
  have S0 : HS σ1 σ1 σ.length (σ.length + 1) (σ.length + 2) (σ.length + 3) [] [] := ⟨fun i o _ _ _ e => e, S.la, S.lk, S.lp, S.all, S.hd, S.d1, S.d2, S.d3⟩
  have back : ∀ {σ' : AHeap} {as ks : List PI}, HS σ1 σ' σ.length (σ.length + 1) (σ.length + 2) (σ.length + 3) as ks → HS σ σ' σ.length (σ.length + 1) (σ.length + 2) (σ.length + 3) as ks :=
    fun S' => ⟨fun i o h1 h2 h3 ei => S'.keep i o h1 h2 h3 (k1 i o ei), S'.la, S'.lk, S'.lp, S'.all, S'.hd, S'.d1, S'.d2, S'.d3⟩
  refine fill_head_W hn hA hK S0 (fun g σ2 as ks S2 has hks => ?_) (fun g σ2 as ks S2 => hx (by unfold lowOk; rw [g]; rfl) _ (hkeep (back S2)))
  have e2 := S2.keep _ _ (by omega) (by omega) (by omega) e
  refine head_end_W (by exact ar_ge (by assumption) (by decide)) hA hK (back S2) has hks (Nat.le_refl _) (by omega) (by omega) (by omega) e2 (by simp) (fun hc => hq (by unfold lowOk; rw [g, hc]; rfl) _) (fun hc => hx (by unfold lowOk; rw [hc, Bool.and_false]))
theorem head_tail_W {n : Nat} (hn : 9 ≤ n + 2) {A K : List Arg} (hA : A.length ≤ 5) (hK : K.length ≤ 3) {vars : AV} {Q : QP AV}
    (hq : lowOk A K = true → ∀ h σ', Keep σ σ' → Has (.obj h) 279 σ' "arguments" A.length → Has (.obj h) 279 σ' "keywords" K.length → (∃ l, σ'[h]? = some (.inst 279 l) ∧ l.lookup ("variables" : Str) = some vars) → Q (.obj h) σ')
    (hx : lowOk A K = false → ∀ σ', Keep σ σ' → X σ') : headTail (cws n) (callP A K) vars σ Q X := by
  unfold headTail
  have lc : (callP A K).length ≤ 8 := by cases K <;> simp [callP] <;> omega
  show W (itemM (.tup (callP A K)) (.int ((0 : Nat) : Int))) σ _ X
  rw [item_tup (x := sX "f") (by exact ar_le (by assumption) (by decide)) rfl]
  show CW (n + 2) 279 [sX "f"] σ _ X
  refine head_W (by exact ar_ge (by assumption) (by decide)) (fun σ1 k1 S e => ?_)
  show kF (.obj σ.length) "callee" σ1 _ X
  rw [getF_at e f279c (v := sX "f") (by kernel_rfl) rfl, kIs_of (r := true) rfl, kIf_t]
  show W (sliceM (.tup (sX "f" :: fillP A K)) (some (.int 1)) none) σ1 _ X
  rw [slice1 (by have : (callP A K).length = (fillP A K).length + 1 := rfl; omega)]
  exact fill_then hn hA hK k1 S e hq hx
theorem func_head {L : KLoops} {kc : Nat → KCallee} {A K : List Arg} {V : List Var} (hV : V.length ≤ 2) {Q : QP AV} (h : headTail kc (callP A K) (.lst (V.map Var.tree)) σ Q X) : kEnter T L (kcI L kc 2) (fiAt 36) [eX "function" [headT A K V, sX "b"]] σ Q X := by
  rcases len2 hV with rfl | ⟨v, rfl⟩ | ⟨v, w, rfl⟩
  · exact (function_head_sh0 L kc (callP A K) σ Q X).mpr h
  · exact (function_head_sh1 L kc (callP A K) v.tree σ Q X).mpr h
  · exact (function_head_sh2 L kc (callP A K) v.tree w.tree σ Q X).mpr h
theorem function_head_W {n : Nat} (hn : 10 ≤ n) {A K : List Arg} {V : List Var} (hA : A.length ≤ 5) (hK : K.length ≤ 3) (hV : V.length ≤ 2) {Q : QP AV}
    (hq : lowOk A K = true → ∀ h σ', Keep σ σ' → Has (.obj h) 279 σ' "arguments" A.length → Has (.obj h) 279 σ' "keywords" K.length → (∃ l, σ'[h]? = some (.inst 279 l) ∧ l.lookup ("variables" : Str) = some (.lst (V.map Var.tree))) → Q (.obj h) σ')
    (hx : lowOk A K = false → ∀ σ', Keep σ σ' → X σ') : CW n 323 [eX "function" [headT A K V, sX "b"]] σ Q X := by
  refine run_W (d := 2) (by exact ar_ge (by assumption) (by decide)) fu_323 ?_
  exact func_head hV (head_tail_W (by exact ar_fu (by assumption) (by decide)) hA hK hq hx)
theorem arrow_head_W {n : Nat} (hn : 10 ≤ n) {A : List Arg} (hA : A.length ≤ 5) {Q : QP AV}
    (hq : lowOk A [] = true → ∀ h σ', Keep σ σ' → Has (.obj h) 279 σ' "arguments" A.length → Q (.obj h) σ')
    (hx : lowOk A [] = false → ∀ σ', Keep σ σ' → X σ') : CW n 323 [eX "->" [eX "tuple" (A.map Arg.tree), sX "b"]] σ Q X := by
  refine run_W (d := 2) (by exact ar_ge (by assumption) (by decide)) fu_323 ?_
  rw [function_head_shA]
  show CW _ 279 [.none] σ _ X
  refine head_W (by exact ar_fu (by assumption) (by decide)) (fun σ1 k1 S e => ?_)
  exact fill_then (n := n - 2 - 1) (K := []) (by exact ar_fu (by assumption) (by decide)) hA (by simp) k1 S e (fun g h σ' k h1 _ _ => hq g h σ' k h1) hx
end
end Mine
end
section
namespace Mine
open PySem

theorem Has.keep {σ σ' : AHeap} {v : AV} {c : Addr} {x : Str} {n : Nat} (h : Has v c σ x n) (k : Keep σ σ') : Has v c σ' x n := by
  obtain ⟨j, l, pv, pl, a, e, b, s, d⟩ := h
  exact ⟨j, l, pv, pl, a, k _ _ e, b, s.keep k, d⟩
theorem f229 : T.fieldOk 229 "many" = true := by kernel_rfl
theorem f366s : T.fieldOk 366 "statics" = true := by kernel_rfl
theorem f366t : T.fieldOk 366 "table" = true := by kernel_rfl
theorem f366b : T.fieldOk 366 "bounds" = true := by kernel_rfl
noncomputable abbrev supO (m : Nat) : AObj := .inst 229 [("many", .int (m : Int))]
theorem upTo3 {i : Nat} (h : i ≤ 3) : i = 0 ∨ i = 1 ∨ i = 2 ∨ i = 3 := (by decide : ∀ i, i ≤ 3 → i = 0 ∨ i = 1 ∨ i = 2 ∨ i = 3) i h
section
variable {σ : AHeap} {X : XP}
theorem supply_W {n : Nat} (hn : 2 ≤ n) {Q : QP AV} (hq : Q (.obj σ.length) (σ ++ [supO 0])) : CW n 229 [] σ Q X := by
  obtain ⟨n, rfl⟩ : ∃ k, n = k + 2 := ⟨n - 2, by omega⟩
  refine cls_W (n := n) (kc := cw n) fu_229 in_229 fu_219 (cw_snd _) ?_
  rw [supply_sh, kS_last (by kernel_rfl)]
  exact ⟨rfl, hq⟩
theorem add_dot (b : Bool) {Q : QP AV} : W (binM .Add (.str (stN b)) (.str ".")) σ Q X = Q (.str (stN b ++ Str.ofString ".")) σ := by cases b <;> kernel_rfl
theorem add_num (b : Bool) {m : Nat} (h : m ≤ 3) {Q : QP AV} : kB (tyF "str") [.int ((m : Int) + 1)] σ (fun c σ => W (binM .Add (.str (stN b ++ Str.ofString ".")) c) σ Q X) X = Q (.str (stN b ++ Str.ofString "." ++ intText ((m : Int) + 1))) σ := by
  rcases upTo3 h with rfl | rfl | rfl | rfl <;> cases b <;> kernel_rfl
theorem split_st (b : Bool) : Txt.split (stN b) "." = [stN b] := by cases b <;> kernel_rfl
theorem next_W {n s m : Nat} (hn : 4 ≤ n) (b : Bool) (hm : m ≤ 3) (e : σ[s]? = some (supO m)) {Q : QP AV} (hq : ∀ r, Q (.str r) (σ.set s (supO (m + 1)))) : CW n 226 [.obj s, .str (stN b)] σ Q X := by
  refine run_W (d := 2) (by exact ar_ge (by assumption) (by decide)) fu_226 ?_
  rw [next_sh, getF_at e f229 (v := .int (m : Int)) (by kernel_rfl) rfl, addI_W, setF_at e f229 (by simp), show putF "many" (.int ((m : Int) + 1)) [(("many" : Str), .int (m : Int))] = [(("many" : Str), .int ((m : Int) + 1))] from by kernel_rfl]
  have e2 : (σ.set s (.inst 229 [("many", .int ((m : Int) + 1))]))[s]? = some (.inst 229 [("many", .int ((m : Int) + 1))]) := get_set e
  refine ⟨by cases b <;> exact of_decide_eq_true (by kernel_rfl), _, _, split_st b, ?_⟩
  rw [add_dot, getF_at e2 f229 (v := .int ((m : Int) + 1)) (by kernel_rfl) rfl, add_num b hm]
  exact hq _
theorem put_names_W {n d : Nat} {l : List (Str × AV)} (hn : 4 ≤ n) (s : Bool) (e : σ[d]? = some (.dict l)) {Q : QP AV} (hq : ∀ r, Q r σ) : CW n 328 [bndT s, .obj d] σ Q X := by
  refine run_W (d := 2) (by exact ar_ge (by assumption) (by decide)) fu_328 ?_
  rw [put_names_sh, mk_get e]
  cases s
  · show kMethM _ .dget (.obj d) [.str "Real", sX "Real"] σ Q X
    rw [dget_at e]; exact hq _
  · show kMethM _ .dget (.obj d) [.str "Int8", sX "Int8"] σ Q X
    rw [dget_at e]; exact hq _
theorem bounds_W {n : Nat} (hn : 4 ≤ n) {v : Var} {Q : QP AV} (hq : v.good = true → Q v.btup σ) (hx : v.good = false → X σ) : CW n 240 [v.tree] σ Q X := by
  refine run_W (d := 2) (by exact ar_ge (by assumption) (by decide)) fu_240 ?_
  rw [bounds_of_sh]
  unfold Var.told
  split
  · rename_i h; exact hq h
  · rename_i h; exact hx h
theorem kIs_in_dict {d : Nat} {l : List (Str × AV)} {s : Str} (e : σ[d]? = some (.dict l)) {p q : AHeap → Prop} : kIs .In (.str s) (.obj d) σ p q X = kIf (l.lookup s).isSome (p σ) (q σ) := by
  show W (inM (.str s) (.obj d) >>= fun t => pure (AV.bool t)) σ _ X = _
  have : inM (.str s) (.obj d) = (getObj d >>= fun o => match o with
    | .dict l => pure (l.lookup s).isSome
    | _ => failM) := rfl
  rw [this, W_bind, W_bind, W_get e]; rfl
structure VS (σ0 σ : AHeap) (o s : Nat) (pre : List Var) : Prop where
  keep : ∀ (i : Nat) (p : AObj), i ≠ s → σ0[i]? = some p → σ[i]? = some p
  oo : σ0.length ≤ o
  ss : s < σ0.length
  at_ : ∃ l, σ[o]? = some (.inst 366 l) ∧ l.lookup ("statics" : Str) = some (.obj (o + 1)) ∧ l.lookup ("table" : Str) = some (.obj (o + 2)) ∧ l.lookup ("bounds" : Str) = some (.obj (o + 3))
  st : ∃ l, σ[o + 1]? = some (.dict l) ∧ l.length ≤ pre.length ∧ ∀ x, (l.lookup x).isSome = decide (x ∈ pre.map Var.nm)
  tb : ∃ l, σ[o + 2]? = some (.dict l) ∧ l.length ≤ pre.length
  bd : ∃ l, σ[o + 3]? = some (.list l) ∧ l.length ≤ pre.length
  sp : σ[s]? = some (supO pre.length)
theorem bnd_W {n o d : Nat} {lt : List (Str × AV)} {l : List (Str × AV)} (hn : 4 ≤ n + 2) (s : Bool) (eo : σ[o]? = some (.inst 366 l)) (hl : l.lookup ("table" : Str) = some (.obj d)) (ed : σ[d]? = some (.dict lt)) {b dflt : AV} (hb : b = .none ∨ b = bndT s) {Q : QP AV} (hq : ∀ r, Q r σ) :
    kBnd (cws n 2) (.obj o) b dflt σ Q X := by
  unfold kBnd
  rcases hb with rfl | rfl
  · rw [kIs_of (r := true) rfl]; exact hq _
  · rw [kIs_of (r := false) (by cases s <;> rfl), kIf_f, getF_at eo f366t hl rfl]
    exact put_names_W hn s ed hq
theorem putF_some (x y : Str) (v : AV) (l : List (Str × AV)) : ((putF x v l).lookup y).isSome = (decide (y = x) || (l.lookup y).isSome) := by
  by_cases h : y = x
  · subst h; rw [lookup_put_self, decide_eq_true rfl]; rfl
  · rw [lookup_put_ne h, decide_eq_false h]; rfl
theorem nm_st (v : Var) : ∃ b, v.nm = stN b := by cases v <;> exact ⟨_, rfl⟩
theorem variables_W {m s : Nat} (hm : 8 ≤ m) {V : List Var} (hV : V.length ≤ 2) (es : σ[s]? = some (supO 0)) {Q : QP AV}
    (hq : (vgoods V && decide (V.map Var.nm).Nodup) = true → ∀ v σ', (∀ (i : Nat) (p : AObj), i ≠ s → σ[i]? = some p → σ'[i]? = some p) → Q v σ')
    (hx : (vgoods V && decide (V.map Var.nm).Nodup) = false → ∀ σ', (∀ (i : Nat) (p : AObj), i ≠ s → σ[i]? = some p → σ'[i]? = some p) → X σ') :
    CW m 366 [.lst (V.map Var.tree), .obj s] σ Q X := by
  obtain ⟨n, rfl⟩ : ∃ k, m = k + 1 + 2 + 2 := ⟨m - 5, by omega⟩
  refine cls_W (n := n + 1 + 2) (kc := kcI realLoops (cws (n + 1)) 2) fu_366 in_366 fu_349 (kcI_W n 2) ?_
  rw [variables_sh]
  rw [app_mid σ, kS_mid f366s (by simp), app_mid σ, kS_mid f366t (by exact of_decide_eq_true (by kernel_rfl)), app_mid σ, kS_mid f366b (by exact of_decide_eq_true (by kernel_rfl))]
  have l1 : (σ ++ [AObj.inst 366 []]).length = σ.length + 1 := by simp
  have l2 : ∀ o : AObj, (σ ++ o :: ([] ++ [.dict []])).length = σ.length + 2 := by simp
  have l3 : ∀ o : AObj, (σ ++ o :: ([] ++ [.dict []] ++ [.dict []])).length = σ.length + 3 := by simp
  rw [l1, l2, l3]
  have ef : putF "bounds" (.obj (σ.length + 3)) (putF "table" (.obj (σ.length + 2)) (putF "statics" (.obj (σ.length + 1)) [])) = [(("statics" : Str), .obj (σ.length + 1)), ("table", .obj (σ.length + 2)), ("bounds", .obj (σ.length + 3))] := by kernel_rfl
  rw [ef, toSeq_seq (.lst (by simp; omega))]
  refine loop_inv (gives_lst (t := Var.tree) (by exact ar_le (by assumption) (by decide))) (fun pre σ' => VS σ σ' σ.length s pre ∧ vgoods pre = true ∧ (pre.map Var.nm).Nodup) ?_ ?_ ?_
  · rintro pre v post σ1 Q1 e ⟨S, g, nd⟩ hnx hr
    have lpre : pre.length ≤ 1 := by have := congrArg List.length e; simp at this; omega
    have hlt : ∀ σ', VS σ σ' σ.length s pre → ∀ (i : Nat) (p : AObj), i ≠ s → σ[i]? = some p → σ'[i]? = some p := fun σ' S => S.keep
    show CW (n + 1 + 2) 240 [v.tree] σ1 _ X
    refine bounds_W (by omega) (fun gv => ?_) (fun gv => hx (by rw [e]; simp [vgoods, gv]) _ S.keep)
    obtain ⟨l, eo, o1, o2, o3⟩ := S.at_
    obtain ⟨ls, els, hls, hls2⟩ := S.st
    obtain ⟨lt, elt, hlt⟩ := S.tb
    obtain ⟨lb, elb, hlb⟩ := S.bd
    show kF (.obj σ.length) "statics" σ1 _ X
    rw [getF_at eo f366s o1 rfl]
    show kIs .In (.str v.nm) (.obj (σ.length + 1)) σ1 _ _ X
    rw [kIs_in_dict els, hls2]
    by_cases hm : v.nm ∈ pre.map Var.nm
    · rw [decide_eq_true hm, kIf_t]
      have hx' : X σ1 := hx (by
        rw [e, decide_eq_false, Bool.and_false]
        intro h
        rw [List.map_append, List.map_cons, List.nodup_append] at h
        exact h.2.2 _ hm _ List.mem_cons_self rfl) _ S.keep
      obtain ⟨b, hb⟩ := nm_st v
      show W (binM .Add (.str (Str.ofString "a variable is told twice: ")) (.str v.nm)) σ1 _ X
      rw [hb]
      have : (Str.ofString "a variable is told twice: ").length + (stN b).length ≤ sizeCap := by cases b <;> exact of_decide_eq_true (by kernel_rfl)
      show W (if (Str.ofString "a variable is told twice: ").length + (stN b).length ≤ sizeCap then pure (AV.str (Str.ofString "a variable is told twice: " ++ stN b)) else failM) σ1 _ X
      rw [if_pos this]; exact hx'
    · rw [decide_eq_false hm, kIf_f]
      have hlo : v.lo = .none ∨ v.lo = bndT true := by cases v <;> first | exact .inl rfl | exact .inr rfl
      have hhi : v.hi = .none ∨ v.hi = bndT false := by cases v <;> first | exact .inl rfl | exact .inr rfl
      show kBnd (cws (n + 1) 2) (.obj σ.length) v.lo _ σ1 _ X
      refine bnd_W (by omega) true eo o2 elt hlo fun low => ?_
      show kBnd (cws (n + 1) 2) (.obj σ.length) v.hi _ σ1 _ X
      refine bnd_W (by omega) false eo o2 elt hhi fun high => ?_
      have hk : kM (.obj s) "next" σ1 = fun Q X => Q (.fn 226) σ1 := by
        funext Q X
        show W (getObj s >>= _) σ1 Q X = _
        rw [W_bind, W_get S.sp]
        show W (if (List.lookup ("next" : Str) [(("many" : Str), AV.int (pre.length : Nat))]).isNone then _ else _) σ1 Q X = _
        rw [if_pos (by kernel_rfl)]; rfl
      rw [hk]
      obtain ⟨b, hb⟩ := nm_st v
      show CW (n + 1 + 2) 226 [.obj s, .str v.nm] σ1 _ X
      rw [hb]
      refine next_W (by omega) b (by exact ar_le (by assumption) (by decide)) S.sp fun r => ?_
      have hnth : v.btup.nth 0 = AV.str (stN b) := by rw [← hb]; rfl
      have hso : s ≠ σ.length ∧ s ≠ σ.length + 1 ∧ s ≠ σ.length + 2 ∧ s ≠ σ.length + 3 := by have := S.ss; omega
      have eo2 := get_set_ne (o := supO (pre.length + 1)) hso.1 eo
      have els2 := get_set_ne (o := supO (pre.length + 1)) hso.2.1 els
      have elt2 := get_set_ne (o := supO (pre.length + 1)) hso.2.2.1 elt
      have elb2 := get_set_ne (o := supO (pre.length + 1)) hso.2.2.2 elb
      have esp2 := get_set (o := supO (pre.length + 1)) S.sp
      have k2 : ∀ (i : Nat) (p : AObj), i ≠ s → σ[i]? = some p → (σ1.set s (supO (pre.length + 1)))[i]? = some p := fun i p hi e => get_set_ne (Ne.symm hi) (S.keep i p hi e)
      generalize σ1.set s (supO (pre.length + 1)) = σ2 at *
      show kF (.obj σ.length) "statics" σ2 _ X
      rw [getF_at eo2 f366s o1 rfl]
      rw [hnth, put_dict els2 (by omega)]
      have eo3 := get_set_ne (i := σ.length + 1) (o := .dict (putF (stN b) (.str r) ls)) (by omega) eo2
      have els3 := get_set (o := .dict (putF (stN b) (.str r) ls)) els2
      have elt3 := get_set_ne (i := σ.length + 1) (o := .dict (putF (stN b) (.str r) ls)) (by omega) elt2
      have elb3 := get_set_ne (i := σ.length + 1) (o := .dict (putF (stN b) (.str r) ls)) (by omega) elb2
      have esp3 := get_set_ne (i := σ.length + 1) (o := .dict (putF (stN b) (.str r) ls)) (Ne.symm hso.2.1) esp2
      have k3 : ∀ (i : Nat) (p : AObj), i ≠ s → σ[i]? = some p → (σ2.set (σ.length + 1) (.dict (putF (stN b) (.str r) ls)))[i]? = some p := fun i p hi e => get_set_ne (by have := get_lt e; omega) (k2 i p hi e)
      generalize σ2.set (σ.length + 1) (.dict (putF (stN b) (.str r) ls)) = σ3 at *
      show kF (.obj σ.length) "table" σ3 _ X
      rw [getF_at eo3 f366t o2 rfl]
      rw [put_dict elt3 (by omega)]
      generalize hdt : putF (stN b) (.tup [.str "value", .tup [.str "type", .tup [.str "var", .str r]]]) lt = dt
      have hdl : dt.length ≤ lt.length + 1 := hdt ▸ put_len _ _ lt
      have eo4 := get_set_ne (i := σ.length + 2) (o := .dict dt) (by omega) eo3
      have els4 := get_set_ne (i := σ.length + 2) (o := .dict dt) (by omega) els3
      have elt4 := get_set (o := .dict dt) elt3
      have elb4 := get_set_ne (i := σ.length + 2) (o := .dict dt) (by omega) elb3
      have esp4 := get_set_ne (i := σ.length + 2) (o := .dict dt) (Ne.symm hso.2.2.1) esp3
      have k4 : ∀ (i : Nat) (p : AObj), i ≠ s → σ[i]? = some p → (σ3.set (σ.length + 2) (.dict dt))[i]? = some p := fun i p hi e => get_set_ne (by have := get_lt e; omega) (k3 i p hi e)
      generalize σ3.set (σ.length + 2) (.dict dt) = σ4 at *
      show kF (.obj σ.length) "bounds" σ4 _ X
      rw [getF_at eo4 f366b o3 rfl]
      show kM (.obj (σ.length + 3)) "append" σ4 _ X
      rw [mk_app elb4, app_at elb4 (by omega)]
      refine hnx _ ⟨⟨fun i p hi e => get_set_ne (by have := get_lt e; omega) (k4 i p hi e), Nat.le_refl _, S.ss, ⟨l, get_set_ne (by omega) eo4, o1, o2, o3⟩, ⟨_, get_set_ne (by omega) els4, ?_, fun x => ?_⟩, ⟨dt, get_set_ne (by omega) elt4, by simp; omega⟩, ⟨_, get_set elb4, by simp; omega⟩, ?_⟩, ?_, ?_⟩
      · have := put_len (stN b) (.str r) ls; simp; omega
      · rw [putF_some, hls2]
        rw [← Bool.decide_or]
        congr 1
        rw [List.map_append, List.mem_append, List.map_cons, List.map_nil, List.mem_singleton, hb]
        exact propext Or.comm
      · have : (pre ++ [v]).length = pre.length + 1 := by simp
        rw [this]; exact get_set_ne (Ne.symm hso.2.2.2) esp4
      · simp only [vgoods, List.all_append, List.all_cons, List.all_nil, Bool.and_true]; rw [gv, Bool.and_true]; exact g
      · rw [List.map_append, List.map_cons, List.map_nil, List.nodup_append]
        exact ⟨nd, by simp, fun a ha b hb => by rw [List.mem_singleton.mp hb]; exact fun q => hm (q ▸ ha)⟩
  · have hk : Keep σ (σ ++ .inst 366 [(("statics" : Str), .obj (σ.length + 1)), ("table", .obj (σ.length + 2)), ("bounds", .obj (σ.length + 3))] :: ([] ++ [.dict []] ++ [.dict []] ++ [nl])) := Keep.app _ _
    exact ⟨⟨fun i p _ e => hk _ _ e, Nat.le_refl _, get_lt es, ⟨_, get_app _ _ _, by kernel_rfl, by kernel_rfl, by kernel_rfl⟩, ⟨[], by simp, by simp, fun x => rfl⟩, ⟨[], by simp, by simp⟩, ⟨[], by simp, by simp⟩, hk _ _ es⟩, rfl, List.nodup_nil⟩
  · rintro σ1 ⟨S, g, nd⟩
    exact ⟨rfl, hq (by rw [g, decide_eq_true nd]; rfl) _ _ S.keep⟩

theorem l_lowered_W {n : Nat} (hn : 11 ≤ n) {A K : List Arg} {V : List Var} (hA : A.length ≤ 5) (hK : K.length ≤ 3) (hV : V.length ≤ 2) {Q : QP AV}
    (hq : (lowOk A K && (vgoods V && decide (V.map Var.nm).Nodup)) = true → ∀ σ', Keep σ σ' → Q (.tup [.int (A.length : Nat), .int (K.length : Nat)]) σ') (hx : (lowOk A K && (vgoods V && decide (V.map Var.nm).Nodup)) = false → ∀ σ', Keep σ σ' → X σ') :
    CW n 443 [headT A K V] σ Q X := by
  refine run_W (d := 2) (by exact ar_ge (by assumption) (by decide)) fu_443 ?_
  rw [l_lowered_sh]
  show CW _ 323 [eX "function" [headT A K V, sX "b"]] σ _ X
  refine function_head_W (by exact ar_fu (by assumption) (by decide)) hA hK hV (fun g h σ1 k1 h1 h2 ⟨l, e, hl⟩ => ?_) (fun g σ1 k1 => hx (by rw [g]; rfl) _ k1)
  show kF (.obj h) "variables" σ1 _ X
  rw [getF_at e f279v hl rfl]
  show CW _ 229 [] σ1 _ X
  refine supply_W (by exact ar_fu (by assumption) (by decide)) ?_
  show CW _ 366 [.lst (V.map Var.tree), .obj σ1.length] (σ1 ++ [supO 0]) _ X
  have hk : ∀ σ2, (∀ (i : Nat) (p : AObj), i ≠ σ1.length → (σ1 ++ [supO 0])[i]? = some p → σ2[i]? = some p) → Keep σ1 σ2 := fun σ2 k i p e => k i p (by have := get_lt e; omega) (Keep.app _ _ _ _ e)
  refine variables_W (by exact ar_fu (by assumption) (by decide)) hV (get_app σ1 _ []) (fun gv v σ2 k2 => ?_) (fun gv σ2 k2 => hx (by rw [gv, Bool.and_false]) _ (k1.trans (hk _ k2)))
  show kF (.obj h) "arguments" σ2 _ X
  rw [(h1.keep (hk _ k2)).len f279a]
  show kF (.obj h) "keywords" σ2 _ X
  rw [(h2.keep (hk _ k2)).len f279k]
  exact hq (by rw [g, gv]; rfl) _ (k1.trans (hk _ k2))
theorem l_lowered_arrow_W {n : Nat} (hn : 11 ≤ n) {A : List Arg} (hA : A.length ≤ 5) {Q : QP AV} (hq : lowOk A [] = true → ∀ σ', Keep σ σ' → Q (.tup [.int (A.length : Nat), .int 0]) σ') (hx : lowOk A [] = false → ∀ σ', Keep σ σ' → X σ') :
    CW n 457 [eX "->" [eX "tuple" (A.map Arg.tree), sX "b"]] σ Q X := by
  refine run_W (d := 2) (by exact ar_ge (by assumption) (by decide)) fu_457 ?_
  rw [l_lowered_arrow_sh]
  show CW _ 323 [eX "->" [eX "tuple" (A.map Arg.tree), sX "b"]] σ _ X
  refine arrow_head_W (by exact ar_fu (by assumption) (by decide)) hA (fun g h σ1 k1 h1 => ?_) hx
  show kF (.obj h) "arguments" σ1 _ X
  rw [h1.len f279a]
  exact hq g _ k1
end
end Mine
end
section
namespace Mine
open PySem

theorem count_nodup : ∀ l : List Str, (∀ s ∈ l, l.count s ≤ 1) ↔ l.Nodup
  | [] => ⟨fun _ => List.nodup_nil, fun _ _ m => (nomatch m)⟩
  | x :: r => by
    rw [List.nodup_cons, ← count_nodup r]
    constructor
    · intro h
      refine ⟨fun m => ?_, fun s m => ?_⟩
      · have := h x List.mem_cons_self
        rw [List.count_cons_self] at this
        have := List.count_pos_iff.mpr m
        omega
      · have := h s (List.mem_cons_of_mem _ m)
        rw [List.count_cons] at this
        omega
    · rintro ⟨hx, h⟩ s m
      rcases List.mem_cons.mp m with rfl | m
      · rw [List.count_cons_self, List.count_eq_zero_of_not_mem hx]; omega
      · rw [List.count_cons, beq_false_of_ne (fun q : x = s => hx (by rw [q]; exact m))]
        have := h s m
        simpa using this
theorem dup_eq (l : List Str) : dup l = !decide l.Nodup := by
  rw [Bool.eq_iff_iff]
  unfold dup
  rw [List.any_eq_true, Bool.not_eq_true', decide_eq_false_iff_not, ← count_nodup]
  constructor
  · rintro ⟨s, m, h⟩ q
    have := of_decide_eq_true h
    have := q s m
    omega
  · intro h
    apply Classical.byContradiction
    intro q
    refine h fun s m => ?_
    apply Classical.byContradiction
    intro p
    exact q ⟨s, m, decide_eq_true (by omega)⟩
noncomputable def ldup (ns : List Str) : Bool := ns.any fun s => nonEmpty s && decide (1 < ns.count s)
theorem ldup_eq (ns : List Str) : ldup ns = !decide (ns.filter nonEmpty).Nodup := by
  rw [← dup_eq, Bool.eq_iff_iff]
  unfold ldup dup
  rw [List.any_eq_true, List.any_eq_true]
  constructor
  · rintro ⟨s, m, h⟩
    obtain ⟨h1, h2⟩ := Bool.and_eq_true_iff.mp h
    exact ⟨s, List.mem_filter.mpr ⟨m, h1⟩, by rw [List.count_filter h1]; exact h2⟩
  · rintro ⟨s, m, h⟩
    obtain ⟨m, h1⟩ := List.mem_filter.mp m
    rw [List.count_filter h1] at h
    exact ⟨s, m, by rw [h1]; exact h⟩

theorem hash_list {i : Nat} (h : i ≤ 8) : (hash i).cps.toList = [35, 49 + i] := by
  rcases upTo8 h with rfl | rfl | rfl | rfl | rfl | rfl | rfl | rfl | rfl <;> kernel_rfl
theorem hash_inj {i j : Nat} (hi : i ≤ 8) (hj : j ≤ 8) (e : hash i = hash j) : i = j := by
  have := congrArg (fun s : Str => s.cps.toList) e
  simp only [hash_list hi, hash_list hj] at this
  simp at this; omega
theorem nm_list (c : Core) : c.nm.cps.toList.length ≤ 1 := by
  cases c with
  | name n => cases n <;> exact of_decide_eq_true (by kernel_rfl)
  | kind n => cases n <;> exact of_decide_eq_true (by kernel_rfl)
  | _ => exact of_decide_eq_true (by kernel_rfl)
theorem hash_ne {i : Nat} (h : i ≤ 8) (c : Core) : c.nm ≠ hash i := fun e => by
  have := nm_list c
  rw [e, hash_list h] at this
  simp at this
theorem empty_list : ("" : Str).cps.toList.length = 0 := by kernel_rfl
theorem nonEmpty_hash {i : Nat} (h : i ≤ 8) : nonEmpty (hash i) = true := by
  unfold nonEmpty
  rw [decide_eq_false, Bool.not_false]
  intro e
  have := empty_list
  rw [← e, hash_list h] at this
  simp at this
theorem nonEmpty_empty : nonEmpty ("" : Str) = false := by unfold nonEmpty; rw [decide_eq_true rfl]; rfl
noncomputable abbrev nms (l : List Arg) : List Str := l.map fun a => a.core.nm
noncomputable def Naming (f : Nat → Arg → Str) : Prop := ∀ i a, f i a = a.core.nm ∨ (f i a = hash i ∧ a.core.nm = ("" : Str))
theorem naming_pn : Naming pn := fun i a => by
  unfold pn
  induction h : a.core.isRow using Bool.casesOn with
  | false => exact .inl rfl
  | true => exact .inr ⟨rfl, by cases e : a.core <;> rw [e] at h <;> first | (exact (no_ft h).elim; done) | rfl⟩
theorem naming_ln : Naming ln := fun i a => by
  unfold ln
  induction h : nonEmpty a.core.nm using Bool.casesOn with
  | true => exact .inl rfl
  | false => exact .inr ⟨rfl, by unfold nonEmpty at h; simpa using h⟩
theorem mem_num {f : Nat → Arg → Str} (hf : Naming f) : ∀ (l : List Arg) (s : Nat), s + l.length ≤ 9 → ∀ t : Str, nonEmpty t = true → (∀ i, s ≤ i → i ≤ 8 → t ≠ hash i) → (t ∈ namesL f s l ↔ t ∈ nms l)
  | [], _, _, _, _, _ => Iff.rfl
  | a :: r, s, hl, t, ht, hh => by
    have ih := mem_num hf r (s + 1) (by simp at hl; omega) t ht fun i hi => hh i (by omega)
    show t ∈ f s a :: namesL f (s + 1) r ↔ t ∈ a.core.nm :: nms r
    rw [List.mem_cons, List.mem_cons, ih]
    rcases hf s a with e | ⟨e, e2⟩
    · rw [e]
    · rw [e, e2]
      constructor
      · rintro (q | q)
        · exact absurd q (hh s (Nat.le_refl _) (by simp at hl; omega))
        · exact .inr q
      · rintro (q | q)
        · rw [q, nonEmpty_empty] at ht; exact (no_ft ht).elim
        · exact .inr q
theorem nodup_num {f : Nat → Arg → Str} (hf : Naming f) : ∀ (l : List Arg) (s : Nat), s + l.length ≤ 9 → (((namesL f s l).filter nonEmpty).Nodup ↔ ((nms l).filter nonEmpty).Nodup)
  | [], _, _ => Iff.rfl
  | a :: r, s, hl => by
    have ih := nodup_num hf r (s + 1) (by simp at hl; omega)
    show ((f s a :: namesL f (s + 1) r).filter nonEmpty).Nodup ↔ ((a.core.nm :: nms r).filter nonEmpty).Nodup
    have hs : s ≤ 8 := by simp at hl; omega
    rw [List.filter_cons, List.filter_cons]
    rcases hf s a with e | ⟨e, e2⟩
    · rw [e]
      induction h : nonEmpty a.core.nm using Bool.casesOn with
      | false => simpa using ih
      | true =>
        rw [if_pos rfl, if_pos rfl, List.nodup_cons, List.nodup_cons, ih]
        refine and_congr_left fun _ => not_congr ?_
        rw [List.mem_filter, List.mem_filter, mem_num hf r (s + 1) (by simp at hl; omega) _ h fun i _ hi => hash_ne hi _]
    · rw [e, e2, nonEmpty_hash hs, nonEmpty_empty, if_pos rfl, if_neg Bool.false_ne_true, List.nodup_cons, ih]
      refine ⟨fun h => h.2, fun h => ⟨fun m => ?_, h⟩⟩
      have m := (List.mem_filter.mp m).1
      unfold namesL at m
      obtain ⟨x, hx, ex⟩ := List.mem_map.mp m
      obtain ⟨i, h1, h2, h3, _⟩ := numL_mem hx
      rw [h3] at ex
      rcases hf i x.2 with q | ⟨q, _⟩
      · rw [q] at ex; exact hash_ne hs _ ex
      · rw [q] at ex
        have := hash_inj (by simp at hl; omega) hs ex
        omega
theorem ln_nonEmpty : ∀ (l : List Arg) (s : Nat), s + l.length ≤ 9 → (namesL ln s l).filter nonEmpty = namesL ln s l
  | [], _, _ => rfl
  | a :: r, s, hl => by
    show (ln s a :: namesL ln (s + 1) r).filter nonEmpty = ln s a :: namesL ln (s + 1) r
    have : nonEmpty (ln s a) = true := by
      unfold ln; split
      · assumption
      · exact nonEmpty_hash (by simp at hl; omega)
    rw [List.filter_cons, this, if_pos rfl, ln_nonEmpty r (s + 1) (by simp at hl; omega)]

noncomputable def canBe (A K : List Arg) (V : List Var) : Bool := goods A && goods K && vgoods V && !ldup (nms (A ++ K)) && !ldup (V.map Var.nm) && ordOk A && noRest K
theorem st_nonEmpty (V : List Var) : (V.map Var.nm).filter nonEmpty = V.map Var.nm := by
  rw [List.filter_eq_self]
  intro s m
  obtain ⟨v, _, rfl⟩ := List.mem_map.mp m
  obtain ⟨b, hb⟩ := nm_st v
  rw [hb]
  cases b <;> kernel_rfl
theorem told_can {A K : List Arg} {V : List Var} (hA : A.length ≤ 5) (hK : K.length ≤ 3) : (vgoods V && toldOk A K V) = canBe A K V := by
  unfold toldOk chk canBe
  rw [dup_eq, dup_eq, ldup_eq, ldup_eq, st_nonEmpty]
  have := nodup_num naming_pn (A ++ K) 0 (by simp; omega)
  rw [show decide ((namesL pn 0 (A ++ K)).filter nonEmpty).Nodup = decide ((nms (A ++ K)).filter nonEmpty).Nodup from decide_eq_decide.mpr this]
  generalize decide ((nms (A ++ K)).filter nonEmpty).Nodup = b1
  generalize decide (V.map Var.nm).Nodup = b2
  generalize vgoods V = b3
  generalize goods A = b4
  generalize goods K = b5
  generalize ordOk A = b6
  generalize noRest K = b7
  revert b1 b2 b3 b4 b5 b6 b7
  decide
theorem low_can {A K : List Arg} {V : List Var} (hA : A.length ≤ 5) (hK : K.length ≤ 3) : (lowOk A K && (vgoods V && decide (V.map Var.nm).Nodup)) = canBe A K V := by
  unfold lowOk lchk canBe
  rw [ldup_eq, ldup_eq, st_nonEmpty]
  have e1 : namesL ln 0 K ++ namesL ln K.length A = namesL ln 0 (K ++ A) := by unfold namesL; rw [numL_append, Nat.zero_add, List.map_append]
  have h1 : (namesL ln K.length A ++ namesL ln 0 K).Nodup ↔ ((nms (A ++ K)).filter nonEmpty).Nodup := by
    rw [List.perm_append_comm.nodup_iff, e1, ← ln_nonEmpty (K ++ A) 0 (by simp; omega), nodup_num naming_ln (K ++ A) 0 (by simp; omega)]
    refine List.Perm.nodup_iff (List.Perm.filter _ ?_)
    exact List.Perm.map _ List.perm_append_comm
  rw [show decide (namesL ln K.length A ++ namesL ln 0 K).Nodup = decide ((nms (A ++ K)).filter nonEmpty).Nodup from decide_eq_decide.mpr h1]
  generalize decide ((nms (A ++ K)).filter nonEmpty).Nodup = b1
  generalize decide (V.map Var.nm).Nodup = b2
  generalize vgoods V = b3
  generalize goods A = b4
  generalize goods K = b5
  generalize ordOk A = b6
  generalize noRest K = b7
  revert b1 b2 b3 b4 b5 b6 b7
  decide
end Mine
end
section
namespace Mine
open PySem

noncomputable def Arg.tup (a : Arg) : AV := .tup [a.tree, .str a.core.nm, .bool a.core.good, .bool a.rest, .bool a.dft.has]
noncomputable def Var.tup (v : Var) : AV := .tup [v.tree, .str v.nm, .bool v.good]
noncomputable def TupN (n : Nat) (x : AV) : Prop := ∃ l, x = .tup l ∧ l.length ≤ 5 ∧ n < l.length
theorem toPDs_bool : ∀ bs : List Bool, toPDs (bs.map AV.bool) = some (bs.map PyData.bool)
  | [] => rfl
  | x :: r => by show (match some (PyData.bool x), toPDs (r.map AV.bool) with | some d, some ds => some (d :: ds) | _, _ => none) = _; rw [toPDs_bool r]; rfl
theorem canLay_bool : ∀ bs : List Bool, PyData.canLayAll0 (bs.map PyData.bool) = true
  | [] => rfl
  | x :: r => by rw [List.map_cons, PyData.canLayAll0, PyData.canLay0, canLay_bool r]; rfl
theorem any_bool (b : Bool) : ∀ bs : List Bool, ((bs.map PyData.bool).any fun y => PyData.eqv y (.bool b)) = bs.any (· == b)
  | [] => rfl
  | x :: r => by rw [List.map_cons, List.any_cons, any_bool b r, show PyData.eqv (.bool x) (.bool b) = (x == b) from rfl]; rfl
theorem inM_bool (b : Bool) (bs : List Bool) : inM (.bool b) (.lst (bs.map AV.bool)) = pure (bs.any (· == b)) := by
  have : inM (.bool b) (.lst (bs.map AV.bool)) = (match toPD (.bool b), toPDs (bs.map AV.bool) with
    | some d, some xs => if SeqAt.shaped d && PyData.canLayAll0 xs then pure (xs.any fun y => PyData.eqv y d) else failM
    | _, _ => failM) := rfl
  rw [this, toPDs_bool, show toPD (.bool b) = some (.bool b) from rfl]
  dsimp only
  rw [if_pos (by rw [canLay_bool, show SeqAt.shaped (.bool b) = true from rfl]; rfl), any_bool]
theorem cmp_in_bool (b : Bool) (bs : List Bool) : cmpM .In (.bool b) (.lst (bs.map AV.bool)) = pure (.bool (bs.any (· == b))) := by
  show (inM (.bool b) (.lst (bs.map AV.bool)) >>= fun t => pure (AV.bool t)) = _
  rw [inM_bool]; rfl
theorem cmp_notin_bool (b : Bool) (bs : List Bool) : cmpM .NotIn (.bool b) (.lst (bs.map AV.bool)) = pure (.bool (!bs.any (· == b))) := by
  show (inM (.bool b) (.lst (bs.map AV.bool)) >>= fun t => pure (AV.bool (!t))) = _
  rw [inM_bool]; rfl
section
variable {σ : AHeap} {X : XP}
theorem items_W {s : AV} {l : List AV} {n : Nat} (hs : SqV σ s l) (ht : ∀ x ∈ l, TupN n x) {Q : QP (List AV)} (hq : Q (l.map fun x => x.nth n) σ) : kItems realLoops s (n : Int) σ Q X := by
  have hs' : SqV σ s (l.map fun x => x) := by simpa using hs
  show W (toSeq s) σ _ X
  rw [toSeq_seq hs]
  refine comp_pure (g := fun x : AV => some (x.nth n)) (stands_seq (t := fun x : AV => x) hs') (fun _ x m Q hq => ?_) ?_
  · obtain ⟨l, rfl, hl, hn⟩ := ht x m
    show W (itemM (.tup l) (.int (n : Int))) σ _ X
    rw [item_tup (x := l[n]) (by exact ar_le (by assumption) (by decide)) (List.getElem?_eq_getElem hn)]
    have : (AV.tup l).nth n = l[n] := by show l.getD n .none = _; rw [List.getD_eq_getElem?_getD, List.getElem?_eq_getElem hn]; rfl
    rw [← this]; exact hq
  · rw [List.filterMap_eq_map' (f := fun x : AV => x.nth n)]; exact hq
theorem tupN_arg {A : List Arg} {n : Nat} (hn : n < 5) : ∀ x ∈ A.map Arg.tup, TupN n x := fun x m => by
  obtain ⟨a, _, rfl⟩ := List.mem_map.mp m; exact ⟨_, rfl, by simp, by simpa using hn⟩
theorem tupN_var {V : List Var} {n : Nat} (hn : n < 3) : ∀ x ∈ V.map Var.tup, TupN n x := fun x m => by
  obtain ⟨a, _, rfl⟩ := List.mem_map.mp m; exact ⟨_, rfl, by simp, by simpa using hn⟩
theorem twice_filter (ns : List Str) : (!(ns.filterMap fun s => match nonEmpty s && decide (1 < ns.count s) with | true => some (AV.str s) | false => none).isEmpty) = ldup ns := by
  unfold ldup
  generalize hg : (fun s => match nonEmpty s && decide (1 < ns.count s) with | true => some (AV.str s) | false => none) = g
  have : ∀ l : List Str, (!(l.filterMap g).isEmpty) = l.any fun s => nonEmpty s && decide (1 < ns.count s) := by
    intro l
    induction l with
    | nil => rfl
    | cons x r ih =>
      rw [List.filterMap_cons, List.any_cons, ← ih, ← hg]
      dsimp only
      cases nonEmpty x && decide (1 < ns.count x) <;> rfl
  exact this ns
theorem twice_W {n : Nat} (hn : 4 ≤ n) {ns : List Str} (hl : ns.length ≤ 1000) (ok : ∀ s ∈ ns, PyData.strOk s = true) {Q : QP AV} (hq : Q (.bool (ldup ns)) σ) : CW n 417 [.lst (ns.map AV.str)] σ Q X := by
  refine run_W (d := 2) (by exact ar_ge (by assumption) (by decide)) fu_417 ?_
  have sn : SqV σ (.lst (ns.map AV.str)) (ns.map AV.str) := .lst (by simpa using hl)
  rw [twice_sh, toSeq_seq sn]
  refine comp_pure (g := fun s => match nonEmpty s && decide (1 < ns.count s) with | true => some (AV.str s) | false => none) (stands_seq sn) (fun _ s m Q hq => ?_) ?_
  · show kIs .NotEq (.str s) (.str "") σ _ _ X
    rw [kIs_of (cmp_ne_str (ok s m) strOk_empty)]
    unfold nonEmpty at hq
    induction e : decide (s = ("" : Str)) using Bool.casesOn with
    | true => rw [e] at hq; exact hq
    | false =>
      rw [e] at hq
      rw [Bool.not_false, kIf_t, count_W]
      show kIs .Gt (.int (ns.count s : Nat)) (.int 1) σ _ _ X
      rw [kIs_of (r := decide ((1 : Int) < (ns.count s : Nat))) rfl]
      by_cases h : 1 < ns.count s
      · rw [decide_eq_true h] at hq
        rw [decide_eq_true (by omega)]; exact hq
      · rw [decide_eq_false h] at hq
        rw [decide_eq_false (by omega)]; exact hq
  · rw [W_ne_nil (.lst (Nat.le_trans (filterMap_len _ _) hl)), twice_filter]; exact hq

theorem order_step {A : List Arg} {a : AV} {k : Nat} {x : Arg} (sa : SqV σ a (A.map Arg.tup)) (hx : A[k]? = some x) {ret next : AHeap → Prop} (h1 : ordBad A k = true → ret σ) (h2 : ordBad A k = false → next σ) :
    kIT x.tup 3 σ (fun σ => kB (blF "len") [a] σ (fun n σ => W (binM .Sub n (.int 1)) σ (fun m σ => kIs .Lt (.int (k : Nat)) m σ ret (fun σ => kIT x.tup 4 σ ret (fun σ => cbOrder a (.int (k : Nat)) x.tup σ ret next X) X) X) X) X) (fun σ => cbOrder a (.int (k : Nat)) x.tup σ ret next X) X := by
  rw [ord_at hx] at h1 h2
  have i3 : ∀ (y : Arg) (p q : AHeap → Prop), kIT y.tup 3 σ p q X = kIf y.rest (p σ) (q σ) := fun y p q => rfl
  have i4 : ∀ (y : Arg) (p q : AHeap → Prop), kIT y.tup 4 σ p q X = kIf y.dft.has (p σ) (q σ) := fun y p q => rfl
  have j3 : ∀ (y : Arg) (p q : AHeap → Prop), kIN y.tup 3 σ p q X = kIf (!y.rest) (p σ) (q σ) := fun y p q => rfl
  have j4 : ∀ (y : Arg) (p q : AHeap → Prop), kIN y.tup 4 σ p q X = kIf (!y.dft.has) (p σ) (q σ) := fun y p q => rfl
  have tail : (x.rest && (decide (k + 1 < A.length) || x.dft.has)) = false → cbOrder a (.int (k : Nat)) x.tup σ ret next X := fun q => by
    rw [q, Bool.false_or] at h1 h2
    unfold cbOrder
    induction k using Nat.casesOn with
    | zero => exact h2 rfl
    | succ j =>
      have hj : j < A.length := by have := (List.getElem?_eq_some_iff.mp hx).1; omega
      have ey : A[j]? = some A[j] := List.getElem?_eq_getElem hj
      generalize A[j] = y at ey
      rw [ordPrev_at ey] at h1 h2
      rw [kIs_of (r := true) (show cmpM .Gt (.int ((j + 1 : Nat) : Int)) (.int 0) = _ by show (pure (AV.bool (decide ((0 : Int) < ((j + 1 : Nat) : Int)))) : M AV) = _; rw [decide_eq_true (by omega)]), kIf_t, sub_W,
        show (((j + 1 : Nat) : Int) - 1) = ((j : Nat) : Int) by omega, item_seq sa (x := y.tup) (by rw [List.getElem?_map, ey]; rfl), i4]
      induction e1 : y.dft.has using Bool.casesOn with
      | false => exact h2 (by rw [e1]; rfl)
      | true =>
        rw [kIf_t, j4]
        induction e2 : x.dft.has using Bool.casesOn with
        | true => exact h2 (by rw [e1, e2]; rfl)
        | false =>
          rw [Bool.not_false, kIf_t, j3]
          induction e3 : x.rest using Bool.casesOn with
          | true => exact h2 (by rw [e1, e2, e3]; rfl)
          | false => exact h1 (by rw [e1, e2, e3]; rfl)
  rw [i3]
  induction e : x.rest using Bool.casesOn with
  | false => exact tail (by rw [e]; rfl)
  | true =>
    rw [kIf_t, len_seq sa, sub_W, List.length_map, kIs_of (r := decide ((k : Int) < (A.length : Int) - 1)) rfl]
    by_cases q : k + 1 < A.length
    · rw [decide_eq_true (by omega)]; exact h1 (by rw [e, decide_eq_true q]; rfl)
    · rw [decide_eq_false (by omega), kIf_f, i4]
      induction e2 : x.dft.has using Bool.casesOn with
      | true => exact h1 (by rw [e, e2, decide_eq_false q]; rfl)
      | false => exact tail (by rw [e, e2, decide_eq_false q]; rfl)
theorem list_split {A : List Arg} {pre post : List Arg} {x : Arg} (e : A = pre ++ x :: post) : A[pre.length]? = some x := by
  rw [e, List.getElem?_append_right (Nat.le_refl _), Nat.sub_self]; rfl
theorem noRest_any (K : List Arg) : (!(K.map (·.rest)).any (· == true)) = noRest K := by
  induction K with
  | nil => rfl
  | cons y r ih =>
    show _ = (!y.rest && noRest r)
    rw [List.map_cons, List.any_cons, Bool.not_or, ih]; cases y.rest <;> rfl
theorem can_be_W {n : Nat} (hn : 5 ≤ n) {A K : List Arg} {V : List Var} (hA : A.length ≤ 5) (hK : K.length ≤ 3) (hV : V.length ≤ 2) {a k v : AV} (sa : SqV σ a (A.map Arg.tup)) (sk : SqV σ k (K.map Arg.tup)) (sv : SqV σ v (V.map Var.tup)) {Q : QP AV}
    (hq : Q (.bool (canBe A K V)) σ) : CW n 422 [a, k, v] σ Q X := by
  refine run_W (d := 2) (by exact ar_ge (by assumption) (by decide)) fu_422 ?_
  have hg : canBe A K V = (!((A ++ K).map (fun a => a.core.good) ++ V.map Var.good).any (· == false) && !ldup (nms (A ++ K)) && !ldup (V.map Var.nm) && ordOk A && noRest K) := by
    have h1 : ∀ l : List Bool, (!l.any (· == false)) = l.all id := fun l => by induction l with | nil => rfl | cons x r ih => rw [List.any_cons, List.all_cons, Bool.not_or, ih]; cases x <;> rfl
    unfold canBe goods vgoods
    rw [h1, List.all_append, List.map_append, List.all_append, List.all_map, List.all_map, List.all_map]; rfl
  rw [can_be_sh, add_seq sa sk (by simp; omega), add_seq (.lst (by simp; omega)) sv (by simp; omega)]
  refine items_W (n := 2) (.lst (by simp; omega)) (fun x m => ?_) ?_
  · rcases List.mem_append.mp m with m | m
    · rw [← List.map_append] at m; exact tupN_arg (by omega) x m
    · exact tupN_var (by omega) x m
  have e2 : (A.map Arg.tup ++ K.map Arg.tup ++ V.map Var.tup).map (fun x => x.nth 2) = ((A ++ K).map (fun a => a.core.good) ++ V.map Var.good).map AV.bool := by
    simp only [List.map_append, List.map_map]; rfl
  rw [e2, kIs_of (cmp_in_bool _ _)]
  induction hb : ((A ++ K).map (fun a => a.core.good) ++ V.map Var.good).any (· == false) using Bool.casesOn with
  | true => rw [hg, hb] at hq; exact hq
  | false =>
    rw [hb] at hg
    rw [kIf_f, add_seq sa sk (by simp; omega)]
    refine items_W (n := 1) (.lst (by simp; omega)) (fun x m => ?_) ?_
    · rw [← List.map_append] at m; exact tupN_arg (by omega) x m
    have e1 : (A.map Arg.tup ++ K.map Arg.tup).map (fun x => x.nth 1) = (nms (A ++ K)).map AV.str := by
      simp only [List.map_append, List.map_map]; rfl
    rw [e1]
    show CW _ 417 [.lst ((nms (A ++ K)).map AV.str)] σ _ X
    refine twice_W (by exact ar_fu (by assumption) (by decide)) (by simp; omega) (fun s m => by obtain ⟨x, _, rfl⟩ := List.mem_map.mp m; exact strOk_nm _) ?_
    rw [kTruth_b]
    induction h1 : ldup (nms (A ++ K)) using Bool.casesOn with
    | true => rw [hg, h1] at hq; exact hq
    | false =>
      rw [h1] at hg
      rw [kIf_f]
      refine items_W (n := 1) sv (tupN_var (by omega)) ?_
      have e3 : (V.map Var.tup).map (fun x => x.nth 1) = (V.map Var.nm).map AV.str := by simp only [List.map_map]; rfl
      rw [e3]
      show CW _ 417 [.lst ((V.map Var.nm).map AV.str)] σ _ X
      refine twice_W (by exact ar_fu (by assumption) (by decide)) (by simp; omega) (fun s m => by obtain ⟨x, _, rfl⟩ := List.mem_map.mp m; obtain ⟨b, e⟩ := nm_st x; rw [e]; cases b <;> kernel_rfl) ?_
      rw [kTruth_b]
      induction h2 : ldup (V.map Var.nm) using Bool.casesOn with
      | true => rw [hg, h2] at hq; exact hq
      | false =>
        rw [h2] at hg
        rw [kIf_f]
        show W (toSeq a) σ _ X
        rw [toSeq_seq sa]
        refine loop_seq (stands_enum sa) (fun pre => ∀ k < pre.length, ordBad A k = false) (fun pre x post Q1 e hp hnx hr => ?_) (fun _ h => absurd h (by simp)) fun hp => ?_
        · refine order_step sa (list_split e) (fun hb => ?_) (fun hb => hnx fun k hk => ?_)
          · refine hr _ _ ?_
            have : ordOk A = false := ordOk_not (by rw [e]; simp) hb
            rw [hg, this] at hq; exact hq
          · rw [List.length_append] at hk
            rcases Nat.lt_or_ge k pre.length with h | h
            · exact hp k h
            · have : k = pre.length := by simp at hk; omega
              rw [this]; exact hb
        · have ho : ordOk A = true := ordOk_of (fun k m => hp k (List.mem_range.mp m)) rfl
          show kItems realLoops k 3 σ _ X
          refine items_W (n := 3) sk (tupN_arg (by omega)) ?_
          have e4 : (K.map Arg.tup).map (fun x => x.nth 3) = (K.map (·.rest)).map AV.bool := by simp only [List.map_map]; rfl
          rw [e4, cmp_notin_bool]
          rw [noRest_any]
          rw [hg, ho] at hq; exact hq
end
end Mine
end
section
namespace Mine
open PySem

noncomputable def due (b : Bool) (n m : Nat) : AV := match b with
  | true => .tup [.int (n : Int), .int (m : Int)]
  | false => .none
theorem eqv_pair (a b : Int) : PyData.eqv (.tuple [.int a, .int b]) (.tuple [.int a, .int b]) = true := by
  show ((a == a) && ((b == b) && true)) = true
  rw [beq_self_eq_true, beq_self_eq_true]; rfl
theorem eqM_due (b : Bool) (n m : Nat) : eqM (due b n m) (due b n m) = pure true := by
  induction b using Bool.casesOn with
  | false => exact eqM_of (p := .none) (q := .none) rfl rfl rfl rfl rfl
  | true =>
    have := eqM_of (a := .tup [.int (n : Int), .int (m : Int)]) (b := .tup [.int (n : Int), .int (m : Int)]) (p := .tuple [.int n, .int m]) (q := .tuple [.int n, .int m]) rfl rfl rfl rfl rfl
    rw [eqv_pair] at this
    exact this
theorem ne_due (b : Bool) (n m : Nat) : cmpM .NotEq (due b n m) (due b n m) = pure (.bool false) := by
  show (eqM (due b n m) (due b n m) >>= fun t => pure (AV.bool (!t))) = _
  rw [eqM_due]; rfl
theorem eq_due (b : Bool) (n m : Nat) : cmpM .Eq (due b n m) (due b n m) = pure (.bool true) := by
  show (eqM (due b n m) (due b n m) >>= fun t => pure (AV.bool t)) = _
  rw [eqM_due]; rfl
section
variable {σ : AHeap} {X : XP}
theorem count_plain {n : Nat} (hn : 10 ≤ n) {A K : List Arg} {V : List Var} (hA : A.length ≤ 5) (hK : K.length ≤ 3) (hV : V.length ≤ 2) {Q : QP AV} (hq : ∀ σ', Keep σ σ' → Q (due (canBe A K V) A.length K.length) σ') : CW n 429 [.top (.ref 436), headT A K V] σ Q X := by
  refine counts_W (by exact ar_ge (by assumption) (by decide)) (.inl rfl) (l_plain_W (by omega) hA hK hV (fun h σ' k => ?_) (fun h σ' k => ?_))
  · rw [told_can hA hK] at h; have := hq σ' k; rw [h] at this; exact this
  · rw [told_can hA hK] at h; have := hq σ' k; rw [h] at this; exact this
theorem count_lowered {n : Nat} (hn : 12 ≤ n) {A K : List Arg} {V : List Var} (hA : A.length ≤ 5) (hK : K.length ≤ 3) (hV : V.length ≤ 2) {Q : QP AV} (hq : ∀ σ', Keep σ σ' → Q (due (canBe A K V) A.length K.length) σ') : CW n 429 [.top (.ref 443), headT A K V] σ Q X := by
  refine counts_W (by exact ar_ge (by assumption) (by decide)) (.inr (.inl rfl)) (l_lowered_W (by omega) hA hK hV (fun h σ' k => ?_) (fun h σ' k => ?_))
  · rw [low_can hA hK] at h; have := hq σ' k; rw [h] at this; exact this
  · rw [low_can hA hK] at h; have := hq σ' k; rw [h] at this; exact this
theorem count_plain_arrow {n : Nat} (hn : 10 ≤ n) {A : List Arg} (hA : A.length ≤ 5) {Q : QP AV} (hq : ∀ σ', Keep σ σ' → Q (due (canBe A [] []) A.length 0) σ') : CW n 429 [.top (.ref 450), eX "->" [eX "tuple" (A.map Arg.tree), sX "b"]] σ Q X := by
  have e := told_can (V := []) (K := []) hA (by simp)
  refine counts_W (by exact ar_ge (by assumption) (by decide)) (.inr (.inr (.inl rfl))) (l_plain_arrow_W (by omega) hA (fun h σ' k => ?_) (fun h σ' k => ?_))
  · rw [h] at e; have := hq σ' k; rw [← e] at this; exact this
  · rw [h] at e; have := hq σ' k; rw [← e] at this; exact this
theorem count_lowered_arrow {n : Nat} (hn : 12 ≤ n) {A : List Arg} (hA : A.length ≤ 5) {Q : QP AV} (hq : ∀ σ', Keep σ σ' → Q (due (canBe A [] []) A.length 0) σ') : CW n 429 [.top (.ref 457), eX "->" [eX "tuple" (A.map Arg.tree), sX "b"]] σ Q X := by
  have e := low_can (V := []) (K := []) hA (by simp)
  refine counts_W (by exact ar_ge (by assumption) (by decide)) (.inr (.inr (.inr rfl))) (l_lowered_arrow_W (by omega) hA (fun h σ' k => ?_) (fun h σ' k => ?_))
  · rw [h] at e; have := hq σ' k; rw [← e] at this; exact this
  · rw [h] at e; have := hq σ' k; rw [← e] at this; exact this
theorem hr6_W {n : Nat} (hn : 12 ≤ n + 2) {A : List Arg} (hA : A.length ≤ 5) {Q : QP AV} (hq : ∀ σ', Q (.bool true) σ') : hr6 (cws n) (eX "->" [eX "tuple" (A.map Arg.tree), sX "b"]) (due (canBe A [] []) A.length 0) σ Q X := by
  unfold hr6
  show CW _ 429 [.top (.ref 450), _] σ _ X
  refine count_plain_arrow (by exact ar_ge (by assumption) (by decide)) hA fun σ1 k1 => ?_
  rw [eq_due]
  show CW _ 429 [.top (.ref 457), _] σ1 _ X
  refine count_lowered_arrow (by exact ar_ge (by assumption) (by decide)) hA fun σ2 k2 => ?_
  rw [eq_due]
  exact hq σ2
theorem hr5_W {n : Nat} (hn : 12 ≤ n + 2) {A : List Arg} (hA : A.length ≤ 5) {a : AV} (sa : SqV σ a (A.map Arg.tup)) {Q : QP AV} (hq : ∀ σ', Q (.bool true) σ') : hr5 realLoops (cws n) a σ Q X := by
  unfold hr5
  refine items_W (n := 0) sa (tupN_arg (by omega)) ?_
  have e0 : (A.map Arg.tup).map (fun x => x.nth 0) = A.map Arg.tree := by simp only [List.map_map]; rfl
  rw [e0, tuple_seq (.lst (by simp; omega))]
  show CW _ 422 [a, .lst [], .lst []] σ _ X
  refine can_be_W (K := []) (V := []) (by exact ar_ge (by assumption) (by decide)) hA (by simp) (by simp) sa (.lst (by simp)) (.lst (by simp)) ?_
  rw [kTruth_b]
  have fin := hr6_W (σ := σ) (X := X) hn hA hq
  induction h : canBe A [] [] using Bool.casesOn with
  | true =>
    rw [h] at fin
    rw [kIf_t]
    show kB (blF "len") [a] σ _ X
    rw [len_seq sa, List.length_map]; exact fin
  | false =>
    rw [h] at fin
    exact fin
theorem hr4_W {n : Nat} (hn : 12 ≤ n + 2) {A K : List Arg} {V : List Var} (hA : A.length ≤ 5) (hK : K.length ≤ 3) (hV : V.length ≤ 2) {a : AV} (sa : SqV σ a (A.map Arg.tup)) {Q : QP AV} (hq : ∀ σ', Q (.bool true) σ') :
    hr4 realLoops (cws n) a (headT A K V) (due (canBe A K V) A.length K.length) σ Q X := by
  unfold hr4
  show CW _ 429 [.top (.ref 436), _] σ _ X
  refine count_plain (by exact ar_ge (by assumption) (by decide)) hA hK hV fun σ1 k1 => ?_
  rw [kIs_of (ne_due _ _ _), kIf_f]
  show CW _ 429 [.top (.ref 443), _] σ1 _ X
  refine count_lowered (by exact ar_ge (by assumption) (by decide)) hA hK hV fun σ2 k2 => ?_
  rw [kIs_of (ne_due _ _ _), kIf_f]
  exact hr5_W hn hA (sa.keep (k1.trans k2)) hq
theorem hr3_W {n : Nat} (hn : 12 ≤ n + 2) {A K : List Arg} {V : List Var} (hA : A.length ≤ 5) (hK : K.length ≤ 3) (hV : V.length ≤ 2) {a k v : AV} (sa : SqV σ a (A.map Arg.tup)) (sk : SqV σ k (K.map Arg.tup)) (sv : SqV σ v (V.map Var.tup)) {Q : QP AV} (hq : ∀ σ', Q (.bool true) σ') :
    hr3 realLoops (cws n) a k v (headT A K V) σ Q X := by
  unfold hr3
  show CW _ 422 [a, k, v] σ _ X
  refine can_be_W (by exact ar_ge (by assumption) (by decide)) hA hK hV sa sk sv ?_
  rw [kTruth_b]
  have fin := hr4_W (σ := σ) (X := X) hn hA hK hV sa hq
  induction h : canBe A K V using Bool.casesOn with
  | true =>
    rw [h] at fin
    rw [kIf_t]
    show kB (blF "len") [a] σ _ X
    rw [len_seq sa, len_seq sk, List.length_map, List.length_map]; exact fin
  | false =>
    rw [h] at fin
    exact fin
theorem hr2_W {n : Nat} (hn : 12 ≤ n + 2) {A K : List Arg} {V : List Var} (hA : A.length ≤ 5) (hK : K.length ≤ 3) (hV : V.length ≤ 2) {a k v : AV} (sa : SqV σ a (A.map Arg.tup)) (sk : SqV σ k (K.map Arg.tup)) (sv : SqV σ v (V.map Var.tup)) {Q : QP AV} (hq : ∀ σ', Q (.bool true) σ') :
    hr2 realLoops (cws n) a k v (eX "call" (callP A K)) σ Q X := by
  unfold hr2
  rw [kIs_ne_nil sv]
  have fin := hr3_W (σ := σ) (X := X) hn hA hK hV sa sk sv hq
  induction V using List.casesOn with
  | nil => exact fin
  | cons w r =>
    show kItems realLoops v 0 σ _ X
    refine items_W (n := 0) sv (tupN_var (by omega)) ?_
    have e0 : ((w :: r).map Var.tup).map (fun x => x.nth 0) = (w :: r).map Var.tree := by simp only [List.map_map]; rfl
    rw [e0, add_seq (.lst (by simp)) (.lst (by simp at hV ⊢; omega)) (by simp at hV ⊢; omega), tuple_seq (.lst (by simp at hV ⊢; omega))]
    exact fin
theorem hr1_W {n : Nat} (hn : 12 ≤ n + 2) {A K : List Arg} {V : List Var} (hA : A.length ≤ 5) (hK : K.length ≤ 3) (hV : V.length ≤ 2) {a k v : AV} (sa : SqV σ a (A.map Arg.tup)) (sk : SqV σ k (K.map Arg.tup)) (sv : SqV σ v (V.map Var.tup)) {ahead : List AV}
    (ha : sX "f" :: (ahead ++ A.map Arg.tree) = callP A K) (hl : ahead.length ≤ 1) {Q : QP AV} (hq : ∀ σ', Q (.bool true) σ') :
    hr1 realLoops (cws n) a k v (.lst ahead) σ Q X := by
  unfold hr1
  rw [add_seq (.lst (by simp)) (.lst (by exact ar_le (by assumption) (by decide))) (by simp; omega)]
  refine items_W (n := 0) sa (tupN_arg (by omega)) ?_
  have e0 : (A.map Arg.tup).map (fun x => x.nth 0) = A.map Arg.tree := by simp only [List.map_map]; rfl
  rw [e0, add_seq (.lst (by simp; omega)) (.lst (by simp; omega)) (by simp; omega), tuple_seq (.lst (by simp; omega))]
  have e1 : [sX "f"] ++ ahead ++ A.map Arg.tree = callP A K := by rw [← ha]; simp
  rw [e1]
  exact hr2_W hn hA hK hV sa sk sv hq
theorem head_right_W {n : Nat} (hn : 13 ≤ n) {A K : List Arg} {V : List Var} (hA : A.length ≤ 5) (hK : K.length ≤ 3) (hV : V.length ≤ 2) {a k v : AV} (sa : SqV σ a (A.map Arg.tup)) (sk : SqV σ k (K.map Arg.tup)) (sv : SqV σ v (V.map Var.tup)) {Q : QP AV} (hq : ∀ σ', Q (.bool true) σ') :
    CW n 462 [a, k, v] σ Q X := by
  refine run_W (d := 2) (by exact ar_ge (by assumption) (by decide)) fu_462 ?_
  rw [head_right_sh, kIs_ne_nil sk]
  induction K using List.casesOn with
  | nil => exact hr1_W (by exact ar_fu (by assumption) (by decide)) hA hK hV sa sk sv rfl (by simp) hq
  | cons y r =>
    show kItems realLoops k 0 σ _ X
    refine items_W (n := 0) sk (tupN_arg (by omega)) ?_
    have e0 : ((y :: r).map Arg.tup).map (fun x => x.nth 0) = (y :: r).map Arg.tree := by simp only [List.map_map]; rfl
    rw [e0, tuple_seq (.lst (by simp at hK ⊢; omega))]
    exact hr1_W (by exact ar_fu (by assumption) (by decide)) hA hK hV sa sk sv rfl (by simp) hq
end
end Mine
end
section
namespace Mine
open PySem

noncomputable def KegAt (σ : AHeap) (i : Nat) : Prop := ∃ a b : Int, σ[i]? = some (.arr [.int a, .int b]) ∧ 0 ≤ a ∧ 0 ≤ b ∧ b < 1998259
theorem small_of {i : Int} (h1 : 0 ≤ i) (h2 : i < 1000000000000) : small i = true := by
  unfold small
  rw [decide_eq_true (by omega), decide_eq_true (by omega)]; rfl
section
variable {σ : AHeap} {X : XP}
theorem mult_W {a b : Int} (ha : 0 ≤ a) (ha' : a < 1000000000000) (hb : 0 ≤ b) (hb' : b < 1000000000000) {Q : QP AV} : W (binM .Mult (.int a) (.int b)) σ Q X = Q (.int (a * b)) σ := by
  show W (if small a && small b then _ else _) σ Q X = _
  rw [if_pos (by rw [small_of ha ha', small_of hb hb']; rfl)]; rfl
theorem mod_W {a b : Int} (hb : 0 < b) {Q : QP AV} : W (binM .Mod (.int a) (.int b)) σ Q X = Q (.int (Int.fmod a b)) σ := by
  show W (if 0 < b then _ else _) σ Q X = _
  rw [if_pos hb]; rfl
theorem div_W {a b : Int} (hb : 0 < b) (hb' : b < 1000000000) {Q : QP AV} : W (binM .FloorDiv (.int a) (.int b)) σ Q X = Q (.int (Int.fdiv a b)) σ := by
  show W (if 0 < b ∧ b < 1000000000 then _ else _) σ Q X = _
  rw [if_pos ⟨hb, hb'⟩]; rfl
theorem fmod_range {a b : Int} (ha : 0 ≤ a) (hb : 0 < b) : 0 ≤ Int.fmod a b ∧ Int.fmod a b < b := by
  rw [Int.fmod_eq_emod_of_nonneg _ (Int.le_of_lt hb)]
  exact ⟨Int.emod_nonneg _ (by omega), Int.emod_lt_of_pos _ hb⟩
theorem fdiv_nonneg' {a b : Int} (ha : 0 ≤ a) (hb : 0 < b) : 0 ≤ Int.fdiv a b := by
  rw [Int.fdiv_eq_ediv_of_nonneg _ (Int.le_of_lt hb)]
  exact Int.ediv_nonneg ha (Int.le_of_lt hb)
theorem arr_item0 {i : Nat} {x y : AV} (e : σ[i]? = some (.arr [x, y])) {Q : QP AV} : W (itemM (.obj i) (.int 0)) σ Q X = Q x σ := by
  show W ((getObj i >>= fun o => match o with
    | .list l => capped l
    | .arr l => capped l
    | _ => failM) >>= fun l => if 0 ≤ (0 : Int) then (match l[(0 : Int).toNat]? with
      | some v => pure v
      | none => failM) else failM) σ Q X = _
  rw [W_bind, W_bind, W_get e]; rfl
theorem arr_item1 {i : Nat} {x y : AV} (e : σ[i]? = some (.arr [x, y])) {Q : QP AV} : W (itemM (.obj i) (.int 1)) σ Q X = Q y σ := by
  show W ((getObj i >>= fun o => match o with
    | .list l => capped l
    | .arr l => capped l
    | _ => failM) >>= fun l => if 0 ≤ (1 : Int) then (match l[(1 : Int).toNat]? with
      | some v => pure v
      | none => failM) else failM) σ Q X = _
  rw [W_bind, W_bind, W_get e]; rfl
theorem arr_put0 {i : Nat} {x y v : AV} (e : σ[i]? = some (.arr [x, y])) {Q : AHeap → Prop} : kPut (.obj i) (.int 0) v σ Q X = Q (σ.set i (.arr [v, y])) := by
  show W (getObj i >>= _) σ _ X = _
  rw [W_bind, W_get e]
  show W (setObj i (.arr [v, y])) σ _ X = _
  rw [W_set (get_lt e)]
theorem arr_put1 {i : Nat} {x y v : AV} (e : σ[i]? = some (.arr [x, y])) {Q : AHeap → Prop} : kPut (.obj i) (.int 1) v σ Q X = Q (σ.set i (.arr [x, v])) := by
  show W (getObj i >>= _) σ _ X = _
  rw [W_bind, W_get e]
  show W (setObj i (.arr [x, v])) σ _ X = _
  rw [W_set (get_lt e)]
theorem tap_W {n i : Nat} (hn : 4 ≤ n) (h : KegAt σ i) {m : Int} (h0 : 0 < m) (h1 : m < 1000000000) {Q : QP AV} (hq : ∀ g σ', 0 ≤ g → g < m → KegAt σ' i → Q (.int g) σ') : CW n 384 [.obj i, .int m] σ Q X := by
  refine run_W (d := 2) (by exact ar_ge (by assumption) (by decide)) fu_384 ?_
  obtain ⟨a, b, e, ha, hb, hb'⟩ := h
  rw [tap_sh, arr_item1 e, mult_W hb (by omega) (by decide) (by decide), addI_W, mod_W (by decide), arr_put1 e]
  have r1 := fmod_range (a := b * 7919 + 419) (b := 1998259) (by omega) (by decide)
  generalize Int.fmod (b * 7919 + 419) 1998259 = b1 at r1
  have e1 := get_set (o := .arr [.int a, .int b1]) e
  generalize σ.set i (.arr [.int a, .int b1]) = σ1 at *
  have r2 := fdiv_nonneg' (a := b1) (b := 101) r1.1 (by decide)
  rw [arr_item0 e1, arr_item1 e1, div_W (by decide) (by decide), addI_W, mod_W h0, arr_item0 e1, div_W h0 h1, arr_put0 e1]
  have r3 := fmod_range (a := a + Int.fdiv b1 101) (b := m) (by omega) h0
  exact hq _ _ r3.1 r3.2 ⟨_, _, get_set e1, fdiv_nonneg' ha h0, r1.1, r1.2⟩
theorem keg_tail {k : Nat} {a : Int} (ha : 0 ≤ a) (hk : k ≤ 3) {Q : QP AV} (hq : ∀ i σ', KegAt σ' i → Q (.obj i) σ') : kegTail (.int a) (.int (k : Int)) σ Q X := by
  unfold kegTail
  have r1 := fmod_range (a := a) (b := 1000829) ha (by decide)
  rw [mod_W (by decide), mult_W (by decide) (by decide) (by omega) (by omega), addI_W, addI_W, mult_W (by omega) (by omega) (by decide) (by decide), mod_W (by decide)]
  have r2 := fmod_range (a := (a.fmod 1000829 + 127 * (k : Int) + 71) * 163) (b := 1998259) (by omega) (by decide)
  exact hq _ _ ⟨_, _, get_app _ _ _, ha, r2.1, r2.2⟩
theorem pos50 : (0 : Int) < 10 ^ 50 := of_decide_eq_true (by kernel_rfl)
theorem abs_W {i : Int} {Q : QP AV} : kB (blF "abs") [.int i] σ Q X = Q (.int (i.natAbs : Int)) σ := rfl
theorem keg_W {n k : Nat} (hn : 4 ≤ n) {l : List Int} (hl : l.length ≤ 1000) (hk : k ≤ 3) {Q : QP AV} (hq : ∀ i σ', KegAt σ' i → Q (.obj i) σ') : CW n 377 [.src l, .int (k : Int)] σ Q X := by
  refine run_W (d := 2) (by exact ar_ge (by assumption) (by decide)) fu_377 ?_
  rw [keg_sh]
  show W (toSeq (.src l) >>= fun l => pure (AV.int (l.length : Int))) σ _ X
  rw [W_bind, toSeq_src hl, W_pure, List.length_map, kIs_of (r := decide ((k : Int) < (l.length : Int))) rfl]
  by_cases h : k < l.length
  · rw [decide_eq_true (by omega)]
    have ei : (l.map AV.int)[k]? = some (.int l[k]) := by rw [List.getElem?_map, List.getElem?_eq_getElem h]; rfl
    have : itemM (.src l) (.int (k : Int)) = (do
      let l ← toSeq (.src l)
      if 0 ≤ (k : Int) then (match l[(k : Int).toNat]? with
        | some v => pure v
        | none => failM) else failM) := rfl
    rw [kIf_t]
    have it : ∀ Q : QP AV, W (itemM (.src l) (.int (k : Int))) σ Q X = Q (.int l[k]) σ := fun Q => by
      rw [this, W_bind, toSeq_src hl, if_pos (Int.natCast_nonneg _), Int.toNat_natCast, ei]; rfl
    rw [it, abs_W, mod_W pos50]
    have h0 := (fmod_range (a := ((l[k]).natAbs : Int)) (Int.natCast_nonneg _) pos50).1
    generalize Int.fmod ((l[k]).natAbs : Int) (10 ^ 50) = m at h0 ⊢
    have h1 : kegTail (.int m) (.int (k : Int)) σ Q X := @keg_tail σ X k m h0 hk Q hq
    exact h1
  · rw [decide_eq_false (by omega), kIf_f]
    have h0 : kegTail (.int 0) (.int (k : Int)) σ Q X := @keg_tail σ X k 0 (Int.le_refl 0) hk Q hq
    exact h0
theorem up3 {g : Int} (h0 : 0 ≤ g) (h : g < 3) : g = 0 ∨ g = 1 ∨ g = 2 := by omega
theorem xyz_W {g : Int} (h0 : 0 ≤ g) (h : g < 3) {Q : QP AV} (hq : ∀ n : Nm, Q (.str n.str) σ) : W (itemM (.str "xyz") (.int g)) σ Q X := by
  rcases up3 h0 h with rfl | rfl | rfl
  · exact Eq.mpr (show W (itemM (.str "xyz") (.int 0)) σ Q X = Q (.str (Nm.x).str) σ by kernel_rfl) (hq _)
  · exact Eq.mpr (show W (itemM (.str "xyz") (.int 1)) σ Q X = Q (.str (Nm.y).str) σ by kernel_rfl) (hq _)
  · exact Eq.mpr (show W (itemM (.str "xyz") (.int 2)) σ Q X = Q (.str (Nm.z).str) σ by kernel_rfl) (hq _)
theorem st_W {g : Int} (h0 : 0 ≤ g) (h : g < 2) {Q : QP AV} (hq : ∀ b : Bool, Q (.str (stN b)) σ) : W (itemM (.str "ST") (.int g)) σ Q X := by
  rcases (show g = 0 ∨ g = 1 by omega) with rfl | rfl
  · exact Eq.mpr (show W (itemM (.str "ST") (.int 0)) σ Q X = Q (.str (stN true)) σ by kernel_rfl) (hq _)
  · exact Eq.mpr (show W (itemM (.str "ST") (.int 1)) σ Q X = Q (.str (stN false)) σ by kernel_rfl) (hq _)
theorem core_W {n i : Nat} (hn : 5 ≤ n) (h : KegAt σ i) {ws : List Str} (h0 : 0 < ws.length) (h1 : ws.length ≤ 100) (ok : ∀ s ∈ ws, PyData.strOk s = true) {Q : QP AV} (hq : ∀ (c : Core) σ', KegAt σ' i → Q (.tup [c.tree, .str c.nm, .bool c.good]) σ') :
    CW n 398 [.obj i, .lst (ws.map AV.str)] σ Q X := by
  refine run_W (d := 2) (by exact ar_ge (by assumption) (by decide)) fu_398 ?_
  rw [core_sh, len_seq (.lst (by simp; omega)), List.length_map]
  show CW _ 384 [.obj i, .int (ws.length : Nat)] σ _ X
  refine tap_W (by exact ar_fu (by assumption) (by decide)) h (by omega) (by omega) fun g σ1 g0 g1 k1 => ?_
  obtain ⟨j, rfl⟩ : ∃ j : Nat, g = j := ⟨g.toNat, by omega⟩
  have hj : j < ws.length := by omega
  rw [item_seq (.lst (by simp; omega)) (x := .str ws[j]) (by rw [List.getElem?_map, List.getElem?_eq_getElem hj]; rfl)]
  have hok := ok _ (List.getElem_mem hj)
  generalize ws[j] = w at hok
  show CW _ 384 [.obj i, .int 3] σ1 _ X
  refine tap_W (by exact ar_fu (by assumption) (by decide)) k1 (by decide) (by decide) fun g2 σ2 g20 g21 k2 => ?_
  refine xyz_W g20 g21 fun nm => ?_
  rw [kIs_of (cmp_eq_str hok (strOk_ofString _))]
  induction decide (w = Str.ofString "name") using Bool.casesOn with
  | true => exact hq (.name nm) _ k2
  | false =>
  rw [kIf_f]
  show kIs .Eq (.str w) (.str "kind") σ2 _ _ X
  rw [kIs_of (cmp_eq_str hok (strOk_ofString _))]
  induction decide (w = Str.ofString "kind") using Bool.casesOn with
  | true => exact hq (.kind nm) _ k2
  | false =>
  rw [kIf_f]
  show kIs .Eq (.str w) (.str "alone") σ2 _ _ X
  rw [kIs_of (cmp_eq_str hok (strOk_ofString _))]
  induction decide (w = Str.ofString "alone") using Bool.casesOn with
  | true => exact hq .alone _ k2
  | false =>
  rw [kIf_f]
  show kIs .Eq (.str w) (.str "low") σ2 _ _ X
  rw [kIs_of (cmp_eq_str hok (strOk_ofString _))]
  induction decide (w = Str.ofString "low") using Bool.casesOn with
  | true => exact hq .low _ k2
  | false =>
  rw [kIf_f]
  show kIs .Eq (.str w) (.str "row") σ2 _ _ X
  rw [kIs_of (cmp_eq_str hok (strOk_ofString _))]
  induction decide (w = Str.ofString "row") using Bool.casesOn with
  | true => exact hq .row _ k2
  | false =>
  rw [kIf_f]
  show kIs .Eq (.str w) (.str "both") σ2 _ _ X
  rw [kIs_of (cmp_eq_str hok (strOk_ofString _))]
  induction decide (w = Str.ofString "both") using Bool.casesOn with
  | true => exact hq .both _ k2
  | false =>
  rw [kIf_f]
  show kIs .Eq (.str w) (.str "number") σ2 _ _ X
  rw [kIs_of (cmp_eq_str hok (strOk_ofString _))]
  induction decide (w = Str.ofString "number") using Bool.casesOn with
  | true => exact hq .number _ k2
  | false => exact hq .odd _ k2
theorem argument_W {n i : Nat} (hn : 6 ≤ n) (h : KegAt σ i) {ws : List Str} (h0 : 0 < ws.length) (h1 : ws.length ≤ 100) (ok : ∀ s ∈ ws, PyData.strOk s = true) {Q : QP AV} (hq : ∀ (a : Arg) σ', KegAt σ' i → Q a.tup σ') :
    CW n 405 [.obj i, .lst (ws.map AV.str)] σ Q X := by
  refine run_W (d := 2) (by exact ar_ge (by assumption) (by decide)) fu_405 ?_
  rw [argument_sh]
  show CW _ 398 [.obj i, .lst (ws.map AV.str)] σ _ X
  refine core_W (by exact ar_fu (by assumption) (by decide)) h h0 h1 ok fun c σ1 k1 => ?_
  show CW _ 384 [.obj i, .int 5] σ1 _ X
  refine tap_W (by exact ar_fu (by assumption) (by decide)) k1 (by decide) (by decide) fun g σ2 g0 g1 k2 => ?_
  rw [cmp_eq_int]
  show CW _ 384 [.obj i, .int 4] σ2 _ X
  refine tap_W (by exact ar_fu (by assumption) (by decide)) k2 (by decide) (by decide) fun d σ3 d0 d1 k3 => ?_
  have mid : ∀ r : Bool, argMid (.str c.nm) (.bool c.good) (.bool r) (.int d) (restT r c.tree) σ3 Q X := fun r => by
    unfold argMid
    rw [kIs_of (r := decide (d < 2)) rfl]
    by_cases hd : d < 2
    · rw [decide_eq_true hd, kIf_t]
      rcases (show d = 0 ∨ d = 1 by omega) with rfl | rfl
      · exact hq ⟨c, r, .kw⟩ _ k3
      · exact hq ⟨c, r, .eq⟩ _ k3
    · rw [decide_eq_false hd, kIf_f]
      show W (cmpM .Lt (.int d) (.int 2)) σ3 _ X
      show W (pure (AV.bool (decide (d < 2)))) σ3 _ X
      rw [W_pure, decide_eq_false hd]
      exact hq ⟨c, r, .no⟩ _ k3
  rw [kTruth_b]
  induction e : decide (g = 0) using Bool.casesOn with
  | true => exact mid true
  | false => exact mid false
theorem variable_W {n i : Nat} (hn : 5 ≤ n) (h : KegAt σ i) {Q : QP AV} (hq : ∀ (v : Var) σ', KegAt σ' i → Q v.tup σ') : CW n 412 [.obj i] σ Q X := by
  refine run_W (d := 2) (by exact ar_ge (by assumption) (by decide)) fu_412 ?_
  rw [variable_sh]
  show CW _ 384 [.obj i, .int 2] σ _ X
  refine tap_W (by exact ar_fu (by assumption) (by decide)) h (by decide) (by decide) fun a σ1 a0 a1 k1 => ?_
  refine st_W a0 a1 fun s => ?_
  show CW _ 384 [.obj i, .int 6] σ1 _ X
  refine tap_W (by exact ar_fu (by assumption) (by decide)) k1 (by decide) (by decide) fun w σ2 w0 w1 k2 => ?_
  have fin : ∀ ok : Bool, ∀ σ', KegAt σ' i → w < 5 → varEnd (.str (stN s)) (.int w) (sX (match ok with | true => "<:" | false => ">:")) σ' Q X := fun ok σ' k hw => by
    unfold varEnd
    rw [kIs_of (r := decide (w < 5)) rfl, decide_eq_true hw, kIf_t]
    cases ok
    · exact Eq.mpr (show W (cmpM .Eq (.str ">:") (.str "<:")) σ' (fun b σ => Q (.tup [eX "comparison" [sX "Int8", sX ">:", .tup [.str "sym", .str (stN s)], sX ">:", sX "Real"], .str (stN s), b]) σ) X = Q (Var.tup (.cmp s false)) σ' by kernel_rfl) (hq (.cmp s false) σ' k)
    · exact Eq.mpr (show W (cmpM .Eq (.str "<:") (.str "<:")) σ' (fun b σ => Q (.tup [eX "comparison" [sX "Int8", sX "<:", .tup [.str "sym", .str (stN s)], sX "<:", sX "Real"], .str (stN s), b]) σ) X = Q (Var.tup (.cmp s true)) σ' by kernel_rfl) (hq (.cmp s true) σ' k)
  rw [kIs_of (r := decide (w < 2)) rfl]
  by_cases h2 : w < 2
  · rw [decide_eq_true h2]; exact hq (.sym s) _ k2
  rw [decide_eq_false h2, kIf_f]
  show kIs .Eq (.int w) (.int 2) σ2 _ _ X
  rw [kIs_of cmp_eq_int]
  by_cases h3 : w = 2
  · rw [decide_eq_true h3]; exact hq (.up s) _ k2
  rw [decide_eq_false h3, kIf_f]
  show kIs .Eq (.int w) (.int 3) σ2 _ _ X
  rw [kIs_of cmp_eq_int]
  by_cases h4 : w = 3
  · rw [decide_eq_true h4, kIf_t]
    show CW _ 384 [.obj i, .int 2] σ2 _ X
    refine tap_W (by exact ar_fu (by assumption) (by decide)) k2 (by decide) (by decide) fun b σ3 b0 b1 k3 => ?_
    rcases (show b = 0 ∨ b = 1 by omega) with rfl | rfl
    · exact fin true σ3 k3 (by omega)
    · exact fin false σ3 k3 (by omega)
  · rw [decide_eq_false h4, kIf_f]
    by_cases h5 : w < 5
    · exact fin true σ2 k2 h5
    · show varEnd (.str (stN s)) (.int w) (sX "<:") σ2 Q X
      unfold varEnd
      rw [kIs_of (r := decide (w < 5)) rfl, decide_eq_false h5]
      exact hq (.bad s) _ k2
end
end Mine
end
section
namespace Mine
open PySem

theorem law_fi : findDef "law" theBody = some (fiAt 55) := by kernel_rfl
theorem ways_ok : ∀ s ∈ ([Str.ofString "name", Str.ofString "kind", Str.ofString "name", Str.ofString "kind", Str.ofString "alone", Str.ofString "low", Str.ofString "row", Str.ofString "both", Str.ofString "number", Str.ofString "odd"] : List Str), PyData.strOk s = true := fun s m => by
  simp only [List.mem_cons, List.not_mem_nil, or_false] at m
  rcases m with rfl | rfl | rfl | rfl | rfl | rfl | rfl | rfl | rfl | rfl <;> exact strOk_ofString _
section
variable {σ : AHeap} {X : XP}
theorem lw2_W {n i : Nat} (hn : 13 ≤ n + 2) (h : KegAt σ i) {ws : List Str} (h0 : 0 < ws.length) (h1 : ws.length ≤ 100) (ok : ∀ s ∈ ws, PyData.strOk s = true) {Q : QP (Option AV)} (hq : ∀ σ', Q none σ') : lw2 realLoops (cws n) (.obj i) (.lst (ws.map AV.str)) σ Q X := by
  unfold lw2
  have rows : ∀ {σ1 : AHeap} (k1 : KegAt σ1 i) {ws : List Str} (h0 : 0 < ws.length) (h1 : ws.length ≤ 100) (ok : ∀ s ∈ ws, PyData.strOk s = true) (m : Nat) (hm : m ≤ 1000) {Q : QP (List AV)} (hq : ∀ (as : List Arg) σ', KegAt σ' i → as.length = m → Q (as.map Arg.tup) σ'),
      realLoops.comp (fun v σ Q X => cws n 2 405 [.obj i, .lst (ws.map AV.str)] σ (fun a σ => Q (some a) σ) X) (.range m) σ1 Q X := by
    intro σ1 k1 ws h0 h1 ok m hm Q hq
    refine comp_inv (gives_range hm) (fun pre acc σ' => KegAt σ' i ∧ ∃ as : List Arg, acc = as.map Arg.tup ∧ as.length = pre.length) ?_ ⟨k1, [], rfl, rfl⟩ ?_
    · rintro pre a post acc σ2 Q1 e ⟨k2, as, rfl, hl⟩ hn'
      show CW _ 405 [.obj i, .lst (ws.map AV.str)] σ2 _ X
      exact argument_W (by exact ar_ge (by assumption) (by decide)) k2 h0 h1 ok fun a σ3 k3 => hn' _ _ ⟨k3, as ++ [a], by simp, by simp; omega⟩
    · rintro acc σ2 ⟨k2, as, rfl, hl⟩
      exact hq as σ2 k2 (by simpa using hl)
  show CW _ 384 [.obj i, .int 5] σ _ X
  refine tap_W (by exact ar_ge (by assumption) (by decide)) h (by decide) (by decide) fun g σ1 g0 g1 k1 => ?_
  refine ⟨g0, by unfold sizeCap; omega, ?_⟩
  refine rows k1 h0 h1 ok _ (by omega) fun as σ2 k2 la => ?_
  show CW _ 384 [.obj i, .int 3] σ2 _ X
  refine tap_W (by exact ar_ge (by assumption) (by decide)) k2 (by decide) (by decide) fun g' σ3 g0' g1' k3 => ?_
  refine ⟨g0', by unfold sizeCap; omega, ?_⟩
  refine rows (ws := [Str.ofString "name", Str.ofString "kind", Str.ofString "kind"]) k3 (by simp) (by simp) (fun s m => ?_) _ (by omega) fun ks σ4 k4 lk => ?_
  · simp only [List.mem_cons, List.not_mem_nil, or_false] at m
    rcases m with rfl | rfl | rfl <;> exact strOk_ofString _
  show CW _ 384 [.obj i, .int 3] σ4 _ X
  refine tap_W (by exact ar_ge (by assumption) (by decide)) k4 (by decide) (by decide) fun g'' σ5 g0'' g1'' k5 => ?_
  refine ⟨g0'', by unfold sizeCap; omega, ?_⟩
  refine comp_inv (gives_range (by omega)) (fun pre acc σ' => KegAt σ' i ∧ ∃ vs : List Var, acc = vs.map Var.tup ∧ vs.length = pre.length) ?_ ⟨k5, [], rfl, rfl⟩ ?_
  · rintro pre a post acc σ6 Q1 e ⟨k6, vs, rfl, hl⟩ hn'
    show CW _ 412 [.obj i] σ6 _ X
    exact variable_W (by exact ar_ge (by assumption) (by decide)) k6 fun v σ7 k7 => hn' _ _ ⟨k7, vs ++ [v], by simp, by simp; omega⟩
  · rintro acc σ6 ⟨k6, vs, rfl, hl⟩
    have lv : vs.length ≤ 2 := by simp at hl; omega
    show CW _ 462 [.lst (as.map Arg.tup), .lst (ks.map Arg.tup), .lst (vs.map Var.tup)] σ6 _ X
    refine head_right_W (by exact ar_ge (by assumption) (by decide)) (A := as) (K := ks) (V := vs) (by omega) (by omega) lv (.lst (by simp; omega)) (.lst (by simp; omega)) (.lst (by simp; omega)) fun σ7 => ?_
    exact hq σ7
theorem maxmin_W {m : Nat} {Q : QP AV} : kB (blF "min") [.int (m : Int), .int 3] σ (fun a σ => kB (blF "max") [.int 1, a] σ Q X) X = Q (.int ((max 1 (min m 3) : Nat) : Int)) σ := by
  show Q (.int (max 1 (min (m : Int) 3))) σ = _
  rcases m with _ | _ | _ | m
  · rfl
  · rfl
  · rfl
  · have h : (3 : Int) ≤ ((m + 3 : Nat) : Int) := Int.ofNat_le.mpr (Nat.le_add_left 3 m)
    rw [Int.min_eq_right h, Nat.min_eq_right (Nat.le_add_left 3 m)]
    rfl
theorem law_W {n : Nat} (hn : 13 ≤ n) {l : List Int} (hl : l.length ≤ 1000) {Q : QP AV} (hq : ∀ σ', Q (.bool true) σ') : kEnter T realLoops (kcI realLoops (cws (n - 2)) 2) (fiAt 55) [.src l] σ Q X := by
  rw [law_sh]
  have e0 : (σ ++ [AObj.list [fix1]])[σ.length]? = some (AObj.list [fix1]) := get_app σ _ []
  rw [mk_app e0, app_at e0 (by simp)]
  have e1 := get_set (o := AObj.list ([fix1] ++ [fix2])) e0
  generalize (σ ++ [AObj.list [fix1]] : List AObj).set σ.length (AObj.list ([fix1] ++ [fix2])) = σ1 at *
  have sa : SqV σ1 (.obj σ.length) (([⟨.name .x, false, .kw⟩, ⟨.name .y, true, .no⟩] : List Arg).map Arg.tup) := .obj e1 (by simp)
  show CW _ 462 [.obj σ.length, .lst [], .lst []] σ1 _ X
  refine head_right_W (by exact ar_f1 (by assumption) (by decide)) (K := []) (V := []) (by simp) (by simp) (by simp) sa (.lst (by simp)) (.lst (by simp)) fun σ2 => ?_
  rw [kTruth_b, Bool.not_true, kIf_f]
  have len : ∀ {Q : QP AV}, kB (blF "len") [.src l] σ2 Q X = Q (.int (l.length : Int)) σ2 := fun {Q} => by
    show W (toSeq (.src l) >>= fun l => pure (AV.int (l.length : Int))) σ2 Q X = _
    rw [W_bind, toSeq_src hl, W_pure, List.length_map]
  rw [len, maxmin_W]
  refine ⟨by omega, by unfold sizeCap; omega, ?_⟩
  rw [Int.toNat_natCast]
  refine loop_inv (gives_range (by omega)) (fun _ _ => True) (fun pre k post σ3 Q1 e _ hnx hr => ?_) trivial fun σ' _ => hq σ'
  have hk : pre.length ≤ 3 := by have := congrArg List.length e; simp at this; omega
  show CW _ 377 [.src l, .int (pre.length : Nat)] σ3 _ X
  refine keg_W (by exact ar_f1 (by assumption) (by decide)) hl hk fun i σ4 k4 => ?_
  show CW _ 384 [.obj i, .int 3] σ4 _ X
  refine tap_W (by exact ar_f1 (by assumption) (by decide)) k4 (by decide) (by decide) fun g σ5 g0 g1 k5 => ?_
  rw [kIs_of cmp_eq_int]
  induction decide (g = 0) using Bool.casesOn with
  | true => exact lw2_W (ws := [Str.ofString "name", Str.ofString "kind", Str.ofString "name", Str.ofString "kind", Str.ofString "alone", Str.ofString "low", Str.ofString "row", Str.ofString "both", Str.ofString "number", Str.ofString "odd"]) (by exact ar_f1 (by assumption) (by decide)) k5 (by simp) (by simp) ways_ok fun σ' => hnx σ' trivial
  | false => exact lw2_W (ws := [Str.ofString "name", Str.ofString "kind", Str.ofString "name", Str.ofString "kind", Str.ofString "alone", Str.ofString "low", Str.ofString "row", Str.ofString "both"]) (by exact ar_f1 (by assumption) (by decide)) k5 (by simp) (by simp) (fun s m => ways_ok s (by simp only [List.mem_cons, List.not_mem_nil, or_false] at m ⊢; rcases m with h | h | h | h | h | h | h | h <;> simp [h])) fun σ' => hnx σ' trivial
end
theorem law_true {n : Nat} (hn : 13 ≤ n) {l : List Int} (hl : l.length ≤ 1000) : ∃ σ', enter T (callF T funAt n) (fiAt 55) [.src l] [] = .ok (.bool true) σ' := by
  have h : W (enter T (callF T funAt n) (fiAt 55) [.src l]) [] (fun v _ => v = .bool true) (fun _ => False) := by
    obtain ⟨m, rfl⟩ : ∃ m, n = m + 1 + 2 := ⟨n - 3, by omega⟩
    refine enter_W (kcI_W m 2) ?_
    have := law_W (σ := []) (X := fun _ => False) (Q := fun v _ => v = .bool true) (n := m + 1 + 2) hn hl fun _ => rfl
    rwa [show m + 1 + 2 - 2 = m + 1 by omega] at this
  unfold W at h
  induction e : enter T (callF T funAt n) (fiAt 55) [.src l] [] using Res.casesOn with
  | ok v σ' => rw [e] at h; exact ⟨σ', by rw [show v = .bool true from h]⟩
  | exn σ' => rw [e] at h; exact h.elim
  | fail => rw [e] at h; exact h.elim
end Mine
end
section
namespace Mine
open PySem PySem.W PySem.Calls PyProof.Rows

theorem law_names : (fiAt 55).scope.names = ([("script", .local), ("fixed", .local), ("k", .local), ("keg", .cell), ("ways", .local), ("some", .cell), ("arguments", .local), ("keywords", .local), ("variables", .local), ("_law_tree", .globalImplicit),
  ("_law_head_right", .globalImplicit), ("range", .globalImplicit), ("max", .globalImplicit), ("min", .globalImplicit), ("len", .globalImplicit), ("_law_keg", .globalImplicit), ("_law_tap", .globalImplicit)] : List (Str × NameKind)) := by kernel_rfl
theorem law_kind : (fiAt 55).scope.kind = .function := by kernel_rfl
theorem law_pars : (fiAt 55).pars = (["script"] : List Str) := by kernel_rfl
theorem law_cells (L : Addr) : cellsFrom (L + 1) (fiAt 55).scope.names [] = ([("some", L + 1 + 1), ("keg", L + 1)] : List (Str × Addr)) := by kernel_rfl
theorem law_script : (fiAt 55).scope.names.lookup ("script" : Str) = some .local := by kernel_rfl
noncomputable abbrev lawEnv (nm : Str) (L a : Addr) (cd : Value) : Env := envOfC nm (fiAt 55).scope L a cd
noncomputable abbrev lawAct (nm : Str) (L a : Addr) (cd : Value) : Act := { A := callerA.deeper (lawEnv nm L a cd), env := lawEnv nm L a cd, fenv := lawEnv nm L a cd, outer := [] }
noncomputable abbrev lawRho (l : List Int) : LEnv := { names := (fiAt 55).scope.names, locals := upd (fun _ => none) "script" (.src l), cells := fun _ => none }
theorem law_ok (nm : Str) (L a : Addr) (cd : Value) : (lawAct nm L a cd).Ok 14 :=
  ⟨Around.frames_deeper rfl, rfl, by show callerA.depth + 1 + 4 * 14 + 4 < recursionLimit; decide, by show callerA.units + 3 + 12 * 14 + 80 < cLine; decide, law_kind, law_kind, rfl, rfl, rfl⟩
theorem lookup_cases {α β : Type} [BEq α] [LawfulBEq α] {l : List (α × β)} {x : α} {v : β} (h : l.lookup x = some v) : (x, v) ∈ l := by
  induction l with
  | nil => cases h
  | cons p r ih =>
    obtain ⟨y, u⟩ := p
    rw [List.lookup_cons] at h
    split at h
    · rename_i q
      rw [beq_iff_eq] at q
      cases h; subst q
      exact List.mem_cons_self
    · exact List.mem_cons_of_mem _ (ih h)
theorem law_nofree : ((fiAt 55).scope.names.all fun p => p.2 != .free) = true := by kernel_rfl
theorem law_cellnames : ((fiAt 55).scope.names.all fun p => match p.2 with
  | .cell => (p.1 == ("keg" : Str)) || (p.1 == ("some" : Str))
  | _ => true) = true := by kernel_rfl
theorem law_walk {l : List Int} {G : Gd} {c : Callee} (ok : G.Ok) (hf : XSim G 14 (evS G.tb c stmtDepth)) (hrun : ∃ σ', enter G.tb c (fiAt 55) [.src l] [] = .ok (.bool true) σ') {nm : Str} {L fa : Addr} {cd : Value} {m : Str → Option Value} {o1 o2 : Obj} {a : Addr} {vs : List Value} {s : Shared}
    (F : Fr G.hb L s.heap m) (N : News G.hb L s.heap [(L + 1 + 1, o1), (L + 1, o2)]) (d1 : ∃ v, o1.data = .cell v) (d2 : ∃ v, o2.data = .cell v) (hm : m "script" = some (.ref a)) (hL : G.hb.IsList a vs.toArray) (hI : IntsAre vs l)
    {Q : Flow → Shared → Prop} {E : Value → Shared → Prop} (hE : PassesOwn (model G.prog G.w) (callerA.deeper (lawEnv nm L fa cd)) (lawEnv nm L fa cd) E)
    (hq : ∀ h' tk', (∀ b o, G.hb.get? b = some o → h'.get? b = some o) → Q (.ret (.bool true)) { s with heap := h', toks := tk' }) :
    wpAny (model G.prog G.w) (callerA.deeper (lawEnv nm L fa cd)) (execs (fiAt 55).body (lawEnv nm L fa cd)) Q E s := by
  obtain ⟨σ', hr⟩ := hrun
  have eb : bindArgs (fiAt 55).pars [.src l] { names := (fiAt 55).scope.names, locals := fun _ => none, cells := fun _ => none } = some (lawRho l) := by
    rw [law_pars]
    show (match LEnv.set { names := (fiAt 55).scope.names, locals := fun _ => none, cells := fun _ => none } ("script" : Str) (.src l) with | some ρ' => some ρ' | none => none) = _
    unfold LEnv.set
    dsimp only
    rw [law_script]
  have hr2 : ∃ ρ', runBlock (evS G.tb c stmtDepth) (fiAt 55).body (lawRho l) [] = .ok (.ret (.bool true), ρ') σ' := by
    unfold enter at hr
    rw [eb] at hr
    change ((runBlock (evS G.tb c stmtDepth) (fiAt 55).body (lawRho l) []).bind _) = _ at hr
    induction e : runBlock (evS G.tb c stmtDepth) (fiAt 55).body (lawRho l) [] using Res.casesOn with
    | fail => rw [e] at hr; cases hr
    | exn σ'' => rw [e] at hr; cases hr
    | ok r σ'' =>
      rw [e] at hr
      obtain ⟨fl, ρ'⟩ := r
      induction fl using AFlow.casesOn with
      | next => cases hr
      | ret v => cases hr; exact ⟨ρ', rfl⟩
  obtain ⟨ρ', hr2⟩ := hr2
  have st : SS G (lawAct nm L fa cd) (lawRho l) [] [] [] [] [(L + 1 + 1, o1), (L + 1, o2)] m s.heap := by
    obtain ⟨v1, d1⟩ := d1
    obtain ⟨v2, d2⟩ := d2
    have hcells : (lawAct nm L fa cd).env.cells = ([("some", L + 1 + 1), ("keg", L + 1)] : List (Str × Addr)) := law_cells L
    refine ⟨F, N, List.nodup_nil, fun p hp => (nomatch hp), fun p hp => (nomatch hp), fun q hq => (nomatch hq), fun q hq => ?_, ⟨rfl, fun i o p e => by simp at e, fun i j p q e => by simp at e⟩, fun x k e => ?_, fun x av e _ => ?_, fun x hx => ?_, fun x y c e1 e2 => ?_, fun e he => ?_⟩
    · rcases List.mem_cons.mp hq with rfl | hq
      · exact .inr (.inl ⟨_, d1⟩)
      · rw [List.mem_singleton.mp hq]; exact .inr (.inl ⟨_, d2⟩)
    · show (fiAt 55).scope.names.lookup x = _
      have e : (fiAt 55).scope.names.lookup x = some k := e
      rw [e]
      have hk : k ≠ .free := fun q => by
        have := List.all_eq_true.mp law_nofree _ (lookup_cases e)
        rw [q] at this
        exact Bool.false_ne_true this
      rw [if_neg hk]
    · have e : upd (fun _ => none) "script" (.src l) x = some av := e
      unfold upd at e
      split at e
      · rename_i q
        cases e; subst q
        exact ⟨_, hm, by unfold Rep; exact ⟨_, _, rfl, hL, hI⟩⟩
      · cases e
    · have hx : (x, NameKind.cell) ∈ (fiAt 55).scope.names ∨ (x, NameKind.free) ∈ (fiAt 55).scope.names := hx.imp lookup_cases lookup_cases
      rw [hcells]
      have : x = "keg" ∨ x = "some" := by
        rcases hx with hx | hx
        · have := List.all_eq_true.mp law_cellnames _ hx
          rcases (Bool.or_eq_true _ _).mp this with h | h
          · exact .inl (beq_iff_eq.mp h)
          · exact .inr (beq_iff_eq.mp h)
        · exact absurd (List.all_eq_true.mp law_nofree _ hx) Bool.false_ne_true
      rcases this with rfl | rfl
      · exact ⟨L + 1, o2, v2, by kernel_rfl, by simp, d2, fun av e => (nomatch e)⟩
      · exact ⟨L + 1 + 1, o1, v1, by kernel_rfl, by simp, d1, fun av e => (nomatch e)⟩
    · rw [hcells] at e1 e2
      have m1 := lookup_cases e1
      have m2 := lookup_cases e2
      simp only [List.mem_cons, Prod.mk.injEq, List.not_mem_nil, or_false] at m1 m2
      rcases m1 with ⟨rfl, rfl⟩ | ⟨rfl, rfl⟩ <;> rcases m2 with ⟨rfl, h⟩ | ⟨rfl, h⟩ <;> first | rfl | exact absurd (show (L + 1 + 1 : Nat) = L + 1 from h) (by simp) | exact absurd (show (L + 1 : Nat) = L + 1 + 1 from h) (by simp)
    · have : e = lawEnv nm L fa cd := by simpa using he
      subst this
      exact ⟨by show (fiAt 55).scope.kind ≠ _; rw [law_kind]; decide, L, rfl, .inl rfl⟩
  refine xs_block hf (lawAct nm L fa cd) (lawRho l) [] [] [] [] _ _ s Q E (fiAt 55).body (law_ok nm L fa cd) hE st ?_
  rw [hr2]
  intro φ' mt' im' fr' m' h' tk' f x st' rf
  obtain ⟨v, rfl, rv⟩ := rf
  have : v = .bool true := by unfold Rep at rv; exact rv
  subst this
  exact hq h' tk' st'.F.keep
end Mine
end
section
namespace Mine
open PySem PySem.W PySem.Calls PyProof.Rows

theorem mods_of {p : Program} {loose : List Str} {mean : ExcName → Option Value} {mg mb : Str → Option Value} {h : Heap} (Tp : Top p loose mean mg mb h) (hp : importsNone p = true) : ∃ o, h.get? sysModules = some o := by
  obtain ⟨mm, ⟨o, es, ep, e, r⟩, _⟩ := (Tp.seer hp).mods
  exact ⟨o, e⟩
theorem law_final {w : World} {pr : Program} {hb : Heap} {mean : ExcName → Option Value} (mods : ∃ o, hb.get? sysModules = some o) {mg mb : Str → Option Value} {loose : List Str} {l : List Int} {K : Frag} (H : HF K) {pv : Program} (KX : K.In hb) (Tp : TopRead pv loose mg mb hb) (hl : l.length ≤ 1000)
    {nm : Str} {L fa : Addr} {cd : Value} {m : Str → Option Value} {o1 o2 : Obj} {a : Addr} {vs : List Value} {s : Shared}
    (F : Fr hb L s.heap m) (N : News hb L s.heap [(L + 1 + 1, o1), (L + 1, o2)]) (d1 : ∃ v, o1.data = .cell v) (d2 : ∃ v, o2.data = .cell v) (hm : m "script" = some (.ref a)) (hL : hb.IsList a vs.toArray) (hI : IntsAre vs l)
    {Q : Flow → Shared → Prop} {E : Value → Shared → Prop} (hE : PassesOwn (model pr w) (callerA.deeper (lawEnv nm L fa cd)) (lawEnv nm L fa cd) E)
    (hq : ∀ h' tk', (∀ b o, hb.get? b = some o → h'.get? b = some o) → Q (.ret (.bool true)) { s with heap := h', toks := tk' }) :
    wpAny (model pr w) (callerA.deeper (lawEnv nm L fa cd)) (execs (fiAt 55).body (lawEnv nm L fa cd)) Q E s := by
  let G : Gd := ⟨pr, w, hb, K, pv, loose, mean, mg, mb, T, funAt⟩
  have ok2 : G.Ok2 := gdOk H rfl rfl rfl mods KX Tp
  have cs : CSimC G 14 (callF T funAt 14) := callsSim H (G := G) rfl rfl rfl mods KX Tp 14
  have xs : XSim G 14 (evS T (callF T funAt 14) stmtDepth) := xSim ok2.toOk cs.sim (raiseSim ok2.toOk (lfOk H rfl)) (trySim ok2.toOk (H.exm)) stmtDepth
  exact law_walk (G := G) ok2.toOk xs (law_true (by decide) hl) F N d1 d2 hm hL hI hE hq
end Mine
end
open PySem PySem.W PyProof.Rows
set_option maxHeartbeats 8000000
namespace Mine
noncomputable def hd.tw8238926242640446845 : Unit := ()
noncomputable def hd.tw10727248033764811480 : Unit := ()
noncomputable def hd.tw876422389191416028 : Unit := ()
noncomputable def hd.tw1962506444172862802 : Unit := ()
noncomputable def hd.tw6816204898703644334 : Unit := ()
noncomputable def hd.tw26425463804135960 : Unit := ()
noncomputable def hd.tw17125477349063603270 : Unit := ()
noncomputable def hd.tw13029831319620015485 : Unit := ()
noncomputable def hd.tw1656537784543397195 : Unit := ()
noncomputable def hd.tw7759468741731315421 : Unit := ()
noncomputable def hd.tw8001178428526945343 : Unit := ()
noncomputable def hd.tw13844380318115746083 : Unit := ()
noncomputable def hd.tw6461092829900370380 : Unit := ()
noncomputable def hd.tw8912803164822033684 : Unit := ()
noncomputable def hd.tw18175329361295489469 : Unit := ()
noncomputable def hd.tw797944442704176489 : Unit := ()
noncomputable def hd.tw18185175575083235020 : Unit := ()
noncomputable def hd.tw10230136404227502862 : Unit := ()
noncomputable def hd.tw7195054533507998468 : Unit := ()
noncomputable def hd.tw15298718440444336668 : Unit := ()
noncomputable def hd.tw2788664435532181463 : Unit := ()
noncomputable def hd.tw9357088731924715283 : Unit := ()
noncomputable def hd.tw11011131195910976488 : Unit := ()
noncomputable def hd.tw9496365245306024149 : Unit := ()
noncomputable def hd.tw1847840615245081061 : Unit := ()
noncomputable def hd.tw10603584201595350602 : Unit := ()
noncomputable def hd.tw3182187488490625086 : Unit := ()
noncomputable def hd.tw15837987909243819085 : Unit := ()
noncomputable def hd.tw9427301549700849589 : Unit := ()
noncomputable def hd.tw13466754112058979494 : Unit := ()
noncomputable def hd.tw15946388913382835224 : Unit := ()
noncomputable def hd.tw15042006015671813226 : Unit := ()
noncomputable def hd.tw14478148883734587675 : Unit := ()
noncomputable def hd.tw8112040973832200146 : Unit := ()
noncomputable def hd.tw17387473266821786944 : Unit := ()
noncomputable def hd.tw16299908979028503884 : Unit := ()
noncomputable def hd.tw2252305205657439004 : Unit := ()
noncomputable def hd.tw11251137523995926341 : Unit := ()
noncomputable def hd.tw6438293893037913957 : Unit := ()
noncomputable def hd.tw16171809288044610508 : Unit := ()
noncomputable def hd.tw13368278939475635651 : Unit := ()
noncomputable def hd.tw10614716105012338702 : Unit := ()
noncomputable def hd.tw13321331477185743149 : Unit := ()
noncomputable def hd.tw16853341256802265648 : Unit := ()
noncomputable def hd.tw11006295307154197183 : Unit := ()
noncomputable def hd.tw15673258824015622330 : Unit := ()
noncomputable def hd.tw991583007596301734 : Unit := ()
noncomputable def hd.tw17711083657039698284 : Unit := ()
noncomputable def hd.tw15852365999677673905 : Unit := ()
noncomputable def hd.tw7510230149288206974 : Unit := ()
noncomputable def hd.tw5036846961687405229 : Unit := ()
noncomputable def hd.tw5716766192118558609 : Unit := ()
noncomputable def hd.tw18293732401869909652 : Unit := ()
noncomputable def hd.tw15220180469806662145 : Unit := ()
noncomputable def hd.tw15508949281206285077 : Unit := ()
noncomputable def hd.tw4172343393113369950 : Unit := ()
noncomputable def hd.tw3480954088277226078 : Unit := ()
noncomputable def hd.tw17330945745186091897 : Unit := ()
noncomputable def hd.tw17681399029576232318 : Unit := ()
noncomputable def hd.tw8324504678176258764 : Unit := ()
noncomputable def hd.tw11162318198679636149 : Unit := ()
noncomputable def hd.tw1848646778235469078 : Unit := ()
noncomputable def hd.tw8117029840178788049 : Unit := ()
noncomputable def hd.tw7746578258024575070 : Unit := ()
noncomputable def hd.tw12901994302517312135 : Unit := ()
noncomputable def hd.tw15910714762333108613 : Unit := ()
noncomputable def hd.tw4377701919642642989 : Unit := ()
noncomputable def hd.tw16412773359747925120 : Unit := ()
noncomputable def hd.tw7512474625130614241 : Unit := ()
noncomputable def hd.tw7120233287515763914 : Unit := ()
noncomputable def hd.tw6082411064634330575 : Unit := ()
noncomputable def hd.tw2274498078352570744 : Unit := ()
noncomputable def hd.tw8609351116199087170 : Unit := ()
noncomputable def hd.tw8990031805342692484 : Unit := ()
noncomputable def hd.tw1506431575118746342 : Unit := ()
noncomputable def hd.tw13285133528070534704 : Unit := ()
noncomputable def hd.tw16546736560662234797 : Unit := ()
noncomputable def hd.tw6598312636042714100 : Unit := ()
noncomputable def hd.tw11128854368766332075 : Unit := ()
noncomputable def hd.tw7519716089354478335 : Unit := ()
noncomputable def hd.tw307737655149646647 : Unit := ()
noncomputable def hd.tw17562767543260142214 : Unit := ()
noncomputable def hd.tw3530705653197291679 : Unit := ()
noncomputable def hd.tw9702936160620672325 : Unit := ()
noncomputable def hd.tw16240987189780228909 : Unit := ()
noncomputable def hd.tw1197925565968671727 : Unit := ()
noncomputable def hd.tw17739348878880393726 : Unit := ()
noncomputable def hd.tw15416985209724490359 : Unit := ()
noncomputable def hd.tw395138700845864316 : Unit := ()
noncomputable def hd.tw16920754564084929960 : Unit := ()
noncomputable def hd.tw14553816603554493358 : Unit := ()
noncomputable def hd.tw2708950531961675432 : Unit := ()
noncomputable def hd.tw11709330566771433103 : Unit := ()
noncomputable def hd.tw15367242080415987702 : Unit := ()
noncomputable def hd.tw16211521421427940678 : Unit := ()
noncomputable def hd.tw8990313861142287110 : Unit := ()
noncomputable def hd.tw541196102884509978 : Unit := ()
noncomputable def hd.tw15219587754997711946 : Unit := ()
noncomputable def hd.tw17054507655720011243 : Unit := ()
noncomputable def hd.tw10949625832625181284 : Unit := ()
noncomputable def hd.tw17447410573909459338 : Unit := ()
noncomputable def hd.tw5190246844813560578 : Unit := ()
noncomputable def hd.tw9641152695372364146 : Unit := ()
noncomputable def hd.tw10458740792067480800 : Unit := ()
noncomputable def hd.tw10024716035694756283 : Unit := ()
noncomputable def hd.tw3442329435671937591 : Unit := ()
noncomputable def hd.tw8268277133935991078 : Unit := ()
noncomputable def hd.tw4478166936697009375 : Unit := ()
noncomputable def hd.tw13220430256171166289 : Unit := ()
noncomputable def hd.tw12050417470231563642 : Unit := ()
noncomputable def hd.tw5373601922739893978 : Unit := ()
noncomputable def hd.tw17986969038992634876 : Unit := ()
noncomputable def hd.tw15948780112781908787 : Unit := ()
noncomputable def hd.tw7355570028127101125 : Unit := ()
noncomputable def hd.tw11631869004601391166 : Unit := ()
noncomputable def hd.tw2329189449893159454 : Unit := ()
noncomputable def hd.tw16037735763661986305 : Unit := ()
noncomputable def hd.tw12092154237167983948 : Unit := ()
noncomputable def hd.tw3694398316872202419 : Unit := ()
noncomputable def hd.tw5732804406350252772 : Unit := ()
noncomputable def hd.tw6990203504111849199 : Unit := ()
noncomputable def hd.tw8381844023166312768 : Unit := ()
noncomputable def hd.tw11151547217846952531 : Unit := ()
noncomputable def hd.tw4086058157674990017 : Unit := ()
noncomputable def hd.tw5608270528595127837 : Unit := ()
noncomputable def hd.tw15411387601460861337 : Unit := ()
noncomputable def hd.tw6276725880618359904 : Unit := ()
noncomputable def hd.tw17001982702790524580 : Unit := ()
noncomputable def hd.tw5343241284826551009 : Unit := ()
noncomputable def hd.tw8134915037123179040 : Unit := ()
noncomputable def hd.tw13330244855972007585 : Unit := ()
noncomputable def hd.tw16259696140248634718 : Unit := ()
noncomputable def hd.tw2327210489368252092 : Unit := ()
noncomputable def hd.tw12487502673411948298 : Unit := ()
noncomputable def hd.tw1800889605409440832 : Unit := ()
noncomputable def hd.tw15643275761693703936 : Unit := ()
noncomputable def hd.tw2068664650715991707 : Unit := ()
noncomputable def hd.tw3008623586974134963 : Unit := ()
noncomputable def hd.tw18300207936620678264 : Unit := ()
noncomputable def hd.tw11754176132448286083 : Unit := ()
noncomputable def hd.tw5292301768408028288 : Unit := ()
noncomputable def hd.tw9170477692918782315 : Unit := ()
noncomputable def hd.tw15683763237869141255 : Unit := ()
noncomputable def hd.tw8343274005884668182 : Unit := ()
noncomputable def hd.tw8228950375871286339 : Unit := ()
noncomputable def hd.tw10246146449241189800 : Unit := ()
noncomputable def hd.tw8047900516022102942 : Unit := ()
noncomputable def hd.tw17893044597097874663 : Unit := ()
noncomputable def hd.tw2386827423013361158 : Unit := ()
noncomputable def hd.tw3646829019195819677 : Unit := ()
noncomputable def hd.tw11117797201346649052 : Unit := ()
end Mine
set_option Elab.async true in
theorem Mine.hd : PySem.Challenge.rw_sa0486_01.Holds := by
  (w_on; o_law; k_head; (case hw => w_witness2))
  w_strict (k_go0; (refine Mine.law_final (mean := fun _ => none) ?zmods ?zhf (by assumption) (topRead_of (by assumption)) ?zhl (by assumption) (by assumption) ⟨_, by assumption⟩ ⟨_, by assumption⟩ ?zhm (by assumption) (by assumption) ?zhE ?zhq))
  case zmods => exact Mine.mods_of (by assumption) (by kernel_rfl)
  case zhl => omega
  case zhm => kernel_rfl
  case zhE => exact PassesOwn.leaving
  case zhq =>
    intro h' tk' kp
    refine ⟨.inl ⟨.bool true, .bool true, [], rfl, ?_, ?_, ?_, ?_⟩, kp, ?_, ?_⟩
    · exact fun cls => rfl
    · exact .bool true
    · kernel_rfl
    · exact fun _ => ⟨List.nodup_nil, fun a h => nomatch h⟩
    · rfl
    · assumption
  case zhf =>
    refine ⟨by kernel_rfl, by kernel_rfl, by kernel_rfl, by kernel_rfl, by kernel_rfl, by kernel_rfl, by kernel_rfl, ⟨_, _, _, _, _, _, _, _, _, _, _, _, _, _, rfl⟩, by kernel_rfl, by kernel_rfl, by kernel_rfl, by kernel_rfl, ⟨by kernel_rfl, by kernel_rfl, by kernel_rfl, by kernel_rfl⟩, ?zlf, ?zfs⟩
    case zlf =>
      refine ⟨_, _, _, _, _, _, _, _, _, rfl, rfl, ⟨_, _, _, _, _, _, _, _, _, _, _, _, _, _, rfl, ?_⟩, ?_, ?_, ?_, ?_, ?_, ?_, ?_, ?_, ?_, ?_, ?_, rfl, rfl, rfl, fun x v => ⟨rfl, ?_⟩⟩
      · kernel_rfl
      · kernel_rfl
      · kernel_rfl
      · kernel_rfl
      · kernel_rfl
      · kernel_rfl
      · kernel_rfl
      · decide +kernel
      · kernel_rfl
      · kernel_rfl
      · kernel_rfl
      · kernel_rfl
      · kernel_rfl
    case zfs =>
      refine Mine.all_cons (Mine.funIn2 (by kernel_rfl) (by kernel_rfl) (by kernel_rfl) (by intros; kernel_rfl)) ?_
      refine Mine.all_cons (Mine.funIn1 (by kernel_rfl) (by kernel_rfl) (by kernel_rfl) (by intros; kernel_rfl)) ?_
      refine Mine.all_cons (Mine.funIn2 (by kernel_rfl) (by kernel_rfl) (by kernel_rfl) (by intros; kernel_rfl)) ?_
      refine Mine.all_cons (Mine.funIn1 (by kernel_rfl) (by kernel_rfl) (by kernel_rfl) (by intros; kernel_rfl)) ?_
      refine Mine.all_cons (Mine.funIn1 (by kernel_rfl) (by kernel_rfl) (by kernel_rfl) (by intros; kernel_rfl)) ?_
      refine Mine.all_cons (Mine.funIn1 (by kernel_rfl) (by kernel_rfl) (by kernel_rfl) (by intros; kernel_rfl)) ?_
      refine Mine.all_cons (Mine.funIn1 (by kernel_rfl) (by kernel_rfl) (by kernel_rfl) (by intros; kernel_rfl)) ?_
      refine Mine.all_cons (Mine.funIn2 (by kernel_rfl) (by kernel_rfl) (by kernel_rfl) (by intros; kernel_rfl)) ?_
      refine Mine.all_cons (Mine.funIn1 (by kernel_rfl) (by kernel_rfl) (by kernel_rfl) (by intros; kernel_rfl)) ?_
      refine Mine.all_cons (Mine.funIn2 (by kernel_rfl) (by kernel_rfl) (by kernel_rfl) (by intros; kernel_rfl)) ?_
      refine Mine.all_cons (Mine.funIn2 (by kernel_rfl) (by kernel_rfl) (by kernel_rfl) (by intros; kernel_rfl)) ?_
      refine Mine.all_cons (Mine.funIn1 (by kernel_rfl) (by kernel_rfl) (by kernel_rfl) (by intros; kernel_rfl)) ?_
      refine Mine.all_cons (Mine.funIn1 (by kernel_rfl) (by kernel_rfl) (by kernel_rfl) (by intros; kernel_rfl)) ?_
      refine Mine.all_cons (Mine.funIn1 (by kernel_rfl) (by kernel_rfl) (by kernel_rfl) (by intros; kernel_rfl)) ?_
      refine Mine.all_cons (Mine.funIn1 (by kernel_rfl) (by kernel_rfl) (by kernel_rfl) (by intros; kernel_rfl)) ?_
      refine Mine.all_cons (Mine.funIn2 (by kernel_rfl) (by kernel_rfl) (by kernel_rfl) (by intros; kernel_rfl)) ?_
      refine Mine.all_cons (Mine.funIn1 (by kernel_rfl) (by kernel_rfl) (by kernel_rfl) (by intros; kernel_rfl)) ?_
      refine Mine.all_cons (Mine.funIn2 (by kernel_rfl) (by kernel_rfl) (by kernel_rfl) (by intros; kernel_rfl)) ?_
      refine Mine.all_cons (Mine.funIn1 (by kernel_rfl) (by kernel_rfl) (by kernel_rfl) (by intros; kernel_rfl)) ?_
      refine Mine.all_cons (Mine.funIn1 (by kernel_rfl) (by kernel_rfl) (by kernel_rfl) (by intros; kernel_rfl)) ?_
      refine Mine.all_cons (Mine.funIn2 (by kernel_rfl) (by kernel_rfl) (by kernel_rfl) (by intros; kernel_rfl)) ?_
      refine Mine.all_cons (Mine.funIn2 (by kernel_rfl) (by kernel_rfl) (by kernel_rfl) (by intros; kernel_rfl)) ?_
      refine Mine.all_cons (Mine.funIn2 (by kernel_rfl) (by kernel_rfl) (by kernel_rfl) (by intros; kernel_rfl)) ?_
      refine Mine.all_cons (Mine.funIn2 (by kernel_rfl) (by kernel_rfl) (by kernel_rfl) (by intros; kernel_rfl)) ?_
      refine Mine.all_cons (Mine.funIn2 (by kernel_rfl) (by kernel_rfl) (by kernel_rfl) (by intros; kernel_rfl)) ?_
      refine Mine.all_cons (Mine.funIn2 (by kernel_rfl) (by kernel_rfl) (by kernel_rfl) (by intros; kernel_rfl)) ?_
      refine Mine.all_cons (Mine.funIn1 (by kernel_rfl) (by kernel_rfl) (by kernel_rfl) (by intros; kernel_rfl)) ?_
      refine Mine.all_cons (Mine.funIn1 (by kernel_rfl) (by kernel_rfl) (by kernel_rfl) (by intros; kernel_rfl)) ?_
      refine Mine.all_cons (Mine.funIn3 (by kernel_rfl) (by kernel_rfl) (by kernel_rfl) (by intros; kernel_rfl)) ?_
      refine Mine.all_cons (Mine.funIn2 (by kernel_rfl) (by kernel_rfl) (by kernel_rfl) (by intros; kernel_rfl)) ?_
      refine Mine.all_cons (Mine.funIn1 (by kernel_rfl) (by kernel_rfl) (by kernel_rfl) (by intros; kernel_rfl)) ?_
      refine Mine.all_cons (Mine.funIn1 (by kernel_rfl) (by kernel_rfl) (by kernel_rfl) (by intros; kernel_rfl)) ?_
      refine Mine.all_cons (Mine.funIn1 (by kernel_rfl) (by kernel_rfl) (by kernel_rfl) (by intros; kernel_rfl)) ?_
      refine Mine.all_cons (Mine.funIn1 (by kernel_rfl) (by kernel_rfl) (by kernel_rfl) (by intros; kernel_rfl)) ?_
      refine Mine.all_cons (Mine.funIn3 (by kernel_rfl) (by kernel_rfl) (by kernel_rfl) (by intros; kernel_rfl)) ?_
      refine Mine.all_cons (Mine.funIn5 (by kernel_rfl) (by kernel_rfl) (by kernel_rfl) (by intros; kernel_rfl)) ?_
      refine Mine.all_cons (Mine.funIn7 (by kernel_rfl) (by kernel_rfl) (by kernel_rfl) (by intros; kernel_rfl)) ?_
      refine Mine.all_cons (Mine.funIn1 (by kernel_rfl) (by kernel_rfl) (by kernel_rfl) (by intros; kernel_rfl)) ?_
      refine Mine.all_cons (Mine.funIn5 (by kernel_rfl) (by kernel_rfl) (by kernel_rfl) (by intros; kernel_rfl)) ?_
      refine Mine.all_cons (Mine.funIn2 (by kernel_rfl) (by kernel_rfl) (by kernel_rfl) (by intros; kernel_rfl)) ?_
      refine Mine.all_cons (Mine.funIn3 (by kernel_rfl) (by kernel_rfl) (by kernel_rfl) (by intros; kernel_rfl)) ?_
      refine Mine.all_cons (Mine.funIn2 (by kernel_rfl) (by kernel_rfl) (by kernel_rfl) (by intros; kernel_rfl)) ?_
      exact Mine.all_nil
theorem PySem.Challenge.cw_sa0486_01_holds : PySem.Challenge.rw_sa0486_01.Holds :=
  Mine.hd
